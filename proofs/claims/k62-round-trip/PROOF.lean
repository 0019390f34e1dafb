import PyProof.Rows.All
import Wide.All
import OpenK.AllK
import Wide.FinOn
import HandS.ForMost
import HandS.Walk
import HandS.Codes
import KE.GoesEnum
import KE.GoesMore
import HandS.IntHex
import HandS.Style
import HandS.SlotsOwn
import KE.Datum
import PyProof.CollectIter
import HandS.IsInst
import HandS.Evl
import HandS.FStr
import HandS.Star
import HandS.TryOnly
import HandS.WordsExc
import HandS.Defaults
import HandS.Ends
import PySem.Challenge.RW_steadycover_k62_whole_sheets_round_trip
set_option Elab.async false
set_option linter.all false
set_option maxRecDepth 100000
set_option maxHeartbeats 4000000
namespace Sc
abbrev L := List Nat
def Bit (c : Nat) : Prop := c = 48 ∨ c = 49
def Sgn (c : Nat) : Prop := c = 45 ∨ c = 48 ∨ c = 49
theorem Bit.sgn {c : Nat} (h : Bit c) : Sgn c := .inr h
/-- a point of n inputs -/
structure Pt (n : Nat) (p : L) : Prop where
  len : p.length = n
  sg : ∀ c ∈ p, Bit c
/-- a cube of n inputs -/
structure Cb (n : Nat) (p : L) : Prop where
  len : p.length = n
  sg : ∀ c ∈ p, Sgn c
/-- the text of a table of n inputs -/
structure Tb (n : Nat) (t : L) : Prop where
  len : t.length = 2 ^ n
  sg : ∀ c ∈ t, Sgn c
  lo : 1 ≤ n
  hi : n ≤ 4
theorem Pt.cb {n : Nat} {p : L} (h : Pt n p) : Cb n p := ⟨h.len, fun c hc => (h.sg c hc).sgn⟩
/-- the signs that may stand where the cube has c -/
def opts (signs : L) (c : Nat) : L := if c = 45 then signs else [c]
def stepF (signs : L) (rows : List L) (c : Nat) : List L := rows.flatMap fun r => (opts signs c).map fun k => r ++ [k]
def fill (cube signs : L) : List L := cube.foldl (stepF signs) [[]]
def bits : L := [48, 49]
def pts (c : L) : List L := fill c bits
def span (a b : L) : L := List.zipWith (fun x y => if x = y then x else 45) a b
def num (p : L) : Nat := p.foldl (fun a c => a * 2 + (c - 48)) 0
def val (t p : L) : Nat := t.getD (num p) 0
/-- the point p fits the cube, sign by sign -/
def Fits (signs : L) : L → L → Prop
  | [], [] => True
  | c :: cs, k :: ks => k ∈ opts signs c ∧ Fits signs cs ks
  | _, _ => False
theorem mem_run {signs : L} : ∀ {cube : L} {rows : List L} {p : L}, p ∈ cube.foldl (stepF signs) rows ↔ ∃ r ∈ rows, ∃ q, p = r ++ q ∧ Fits signs cube q
  | [], rows, p => by
    constructor
    · intro h
      exact ⟨p, h, [], (List.append_nil p).symm, trivial⟩
    · rintro ⟨r, hr, q, e, f⟩
      cases q with
      | nil => rw [e, List.append_nil]; exact hr
      | cons a b => exact f.elim
  | c :: cs, rows, p => by
    rw [List.foldl_cons, mem_run]
    constructor
    · rintro ⟨r, hr, q, rfl, f⟩
      obtain ⟨r0, h0, hk⟩ := List.mem_flatMap.mp hr
      obtain ⟨k, ho, rfl⟩ := List.mem_map.mp hk
      exact ⟨r0, h0, k :: q, by rw [List.append_assoc]; rfl, ho, f⟩
    · rintro ⟨r, hr, q, rfl, f⟩
      cases q with
      | nil => exact f.elim
      | cons k ks =>
        refine ⟨r ++ [k], List.mem_flatMap.mpr ⟨r, hr, List.mem_map.mpr ⟨k, f.1, rfl⟩⟩, ks, ?_, f.2⟩
        rw [List.append_assoc]
        rfl
theorem mem_fill {signs cube p : L} : p ∈ fill cube signs ↔ Fits signs cube p := by
  unfold fill
  rw [mem_run]
  constructor
  · rintro ⟨r, hr, q, rfl, f⟩
    rw [List.mem_singleton.mp hr]
    exact f
  · intro f
    exact ⟨[], List.mem_singleton.mpr rfl, p, rfl, f⟩
theorem mem_opts {c k : Nat} (hc : Sgn c) (h : k ∈ opts bits c) : Bit k := by
  unfold opts at h
  split at h
  · rcases List.mem_cons.mp h with h | h
    · exact .inl h
    · exact .inr (List.mem_singleton.mp h)
  · rename_i hn
    rw [List.mem_singleton.mp h]
    rcases hc with hc | hc
    · exact absurd hc hn
    · exact hc
theorem fits_pt : ∀ {c p : L}, (∀ x ∈ c, Sgn x) → Fits bits c p → p.length = c.length ∧ ∀ x ∈ p, Bit x
  | [], [], _, _ => ⟨rfl, fun _ h => nomatch h⟩
  | c :: cs, k :: ks, hs, f => by
    obtain ⟨h1, h2⟩ := fits_pt (fun x hx => hs x (List.mem_cons_of_mem _ hx)) f.2
    refine ⟨by rw [List.length_cons, List.length_cons, h1], fun x hx => ?_⟩
    rcases List.mem_cons.mp hx with rfl | hx
    · exact mem_opts (hs c List.mem_cons_self) f.1
    · exact h2 x hx
  | [], _ :: _, _, f => f.elim
  | _ :: _, [], _, f => f.elim
theorem pts_pt {n : Nat} {c p : L} (hc : Cb n c) (h : p ∈ pts c) : Pt n p := by
  obtain ⟨h1, h2⟩ := fits_pt hc.sg (mem_fill.mp h)
  exact ⟨h1.trans hc.len, h2⟩
theorem span_len {n : Nat} {a b : L} (ha : a.length = n) (hb : b.length = n) : (span a b).length = n := by
  unfold span
  rw [List.length_zipWith, ha, hb]
  exact Nat.min_self n
theorem span_sg : ∀ {a b : L}, (∀ x ∈ a, Sgn x) → ∀ x ∈ span a b, Sgn x
  | [], _, _, x, h => by cases h
  | _ :: _, [], _, x, h => by cases h
  | a :: as, b :: bs, hs, x, h => by
    have h' : x ∈ (if a = b then a else 45) :: span as bs := h
    rcases List.mem_cons.mp h' with h' | h'
    · rw [h']
      split
      · exact hs a List.mem_cons_self
      · exact .inl rfl
    · exact span_sg (fun y hy => hs y (List.mem_cons_of_mem _ hy)) x h'
theorem span_cb {n : Nat} {a b : L} (ha : Cb n a) (hb : b.length = n) : Cb n (span a b) := ⟨span_len ha.len hb, span_sg ha.sg⟩
theorem fits_l : ∀ {a b : L}, a.length = b.length → (∀ x ∈ a, Bit x) → Fits bits (span a b) a
  | [], [], _, _ => trivial
  | a :: as, b :: bs, e, hs => by
    have e' : as.length = bs.length := by simpa using e
    refine ⟨?_, fits_l e' fun y hy => hs y (List.mem_cons_of_mem _ hy)⟩
    have ha := hs a List.mem_cons_self
    show a ∈ opts bits (if a = b then a else 45)
    by_cases h : a = b
    · rw [if_pos h]
      unfold opts
      rw [if_neg (by rcases ha with h | h <;> omega)]
      exact List.mem_singleton.mpr rfl
    · rw [if_neg h]
      unfold opts
      rw [if_pos rfl]
      rcases ha with rfl | rfl <;> decide
  | [], _ :: _, e, _ => by cases e
  | _ :: _, [], e, _ => by cases e
theorem span_comm : ∀ a b : L, span a b = span b a
  | [], [] => rfl
  | [], _ :: _ => rfl
  | _ :: _, [] => rfl
  | a :: as, b :: bs => by
    show (if a = b then a else 45) :: span as bs = (if b = a then b else 45) :: span bs as
    rw [span_comm as bs]
    by_cases h : a = b
    · rw [if_pos h, if_pos h.symm, h]
    · rw [if_neg h, if_neg fun z => h z.symm]
theorem mem_span_l {n : Nat} {a b : L} (ha : Pt n a) (hb : Pt n b) : a ∈ pts (span a b) := mem_fill.mpr (fits_l (ha.len.trans hb.len.symm) ha.sg)
theorem mem_span_r {n : Nat} {a b : L} (ha : Pt n a) (hb : Pt n b) : b ∈ pts (span a b) := by
  rw [span_comm]
  exact mem_span_l hb ha
theorem num_go : ∀ (p : L) (a : Nat), (∀ c ∈ p, Bit c) → p.foldl (fun a c => a * 2 + (c - 48)) a < (a + 1) * 2 ^ p.length
  | [], a, _ => by show a < (a + 1) * 1; omega
  | c :: cs, a, h => by
    have ih := num_go cs (a * 2 + (c - 48)) fun x hx => h x (List.mem_cons_of_mem _ hx)
    have hc : c - 48 ≤ 1 := by
      rcases h c List.mem_cons_self with rfl | rfl <;> omega
    rw [List.foldl_cons, List.length_cons, Nat.pow_succ]
    have h2 : (a * 2 + (c - 48) + 1) * 2 ^ cs.length ≤ (a + 1) * 2 * 2 ^ cs.length := Nat.mul_le_mul_right _ (by omega)
    have h3 : (a + 1) * 2 * 2 ^ cs.length = (a + 1) * (2 ^ cs.length * 2) := by rw [Nat.mul_assoc, Nat.mul_comm 2]
    omega
theorem num_lt {n : Nat} {p : L} (h : Pt n p) : num p < 2 ^ n := by
  have z := num_go p 0 h.sg
  rw [h.len, Nat.zero_add, Nat.one_mul] at z
  exact z
theorem val_at {n : Nat} {t p : L} (ht : Tb n t) (hp : Pt n p) : t[num p]? = some (val t p) := by
  have h := num_lt hp
  rw [← ht.len] at h
  unfold val
  rw [List.getD_eq_getElem?_getD, List.getElem?_eq_getElem h]
  rfl
theorem val_sgn {n : Nat} {t p : L} (ht : Tb n t) (hp : Pt n p) : Sgn (val t p) := ht.sg _ (List.mem_of_getElem? (val_at ht hp))
/-- a change is plain, told by the points of its cube -/
structure PlainCh (t s e : L) : Prop where
  nofree : ∀ p ∈ pts (span s e), val t p ≠ 45
  even : val t s = val t e → ∀ p ∈ pts (span s e), val t p = val t s
  mono : val t s ≠ val t e → ∀ x ∈ pts (span s e), val t x = val t e → ∀ y ∈ pts (span x e), val t y ≠ val t s
structure GoodCh (n : Nat) (t : L) (ch : L × L) : Prop where
  a : Pt n ch.1
  b : Pt n ch.2
  ne : ch.1 ≠ ch.2
  pl : PlainCh t ch.1 ch.2
theorem stepF_len (rows : List L) (c : Nat) : (stepF bits rows c).length ≤ rows.length * 2 := by
  unfold stepF
  induction rows with
  | nil => exact Nat.le_refl _
  | cons r rs ih =>
    rw [List.flatMap_cons, List.length_append, List.length_map, List.length_cons]
    have : (opts bits c).length ≤ 2 := by
      unfold opts
      split
      · exact Nat.le_refl _
      · exact Nat.le_succ _
    omega
theorem run_len : ∀ (c : L) (rows : List L), (c.foldl (stepF bits) rows).length ≤ rows.length * 2 ^ c.length
  | [], rows => by show rows.length ≤ rows.length * 1; omega
  | c :: cs, rows => by
    have h1 := run_len cs (stepF bits rows c)
    have h2 := stepF_len rows c
    rw [List.foldl_cons, List.length_cons, Nat.pow_succ]
    have h3 : (stepF bits rows c).length * 2 ^ cs.length ≤ rows.length * 2 * 2 ^ cs.length := Nat.mul_le_mul_right _ h2
    have h4 : rows.length * 2 * 2 ^ cs.length = rows.length * (2 ^ cs.length * 2) := by rw [Nat.mul_assoc, Nat.mul_comm 2]
    omega
theorem pow_le {n : Nat} (h : n ≤ 4) : 2 ^ n ≤ 16 := Nat.pow_le_pow_right (by decide) h
theorem pts_len {n : Nat} {c : L} (h : c.length = n) (hn : n ≤ 4) : (pts c).length ≤ 16 := by
  have z := run_len c [[]]
  rw [h] at z
  have := pow_le hn
  show (List.foldl (stepF bits) [[]] c).length ≤ 16
  have e : ([[]] : List L).length = 1 := rfl
  rw [e] at z
  omega
def stepP (rows : List L) (c : Nat) : List L := rows.flatMap fun r => (if c = 49 then [] else [r ++ [48]]) ++ (if c = 48 then [] else [r ++ [49]])
theorem stepP_eq {c : Nat} (h : Sgn c) (rows : List L) : stepP rows c = stepF bits rows c := by
  rcases h with rfl | rfl | rfl <;> rfl
def q (s : String) : L := s.toList.map Char.toNat
def lineT (t : L) : L := q "table " ++ t
def lineC (ch : L × L) : L := q "change " ++ ch.1 ++ q " " ++ ch.2
def lineP (c : L) : L := q "product " ++ c
def covLines : Option (List L) → List L
  | none => []
  | some cs => q "cover" :: cs.map lineP
def linesOf (t : L) (chs : List (L × L)) (cov : Option (List L)) : List L := lineT t :: (chs.map lineC ++ covLines cov)
def sheet (t : L) (chs : List (L × L)) (cov : Option (List L)) : L := (linesOf t chs cov).flatMap fun l => l ++ [10]
structure GoodSheet (n : Nat) (t : L) (chs : List (L × L)) (cov : Option (List L)) : Prop where
  tb : Tb n t
  few : chs.length ≤ 8
  good : ∀ ch ∈ chs, GoodCh n t ch
  many : ∀ cs, cov = some cs → cs.length ≤ 40
  cubes : ∀ cs, cov = some cs → ∀ c ∈ cs, Cb n c
theorem sgn_no {x k : Nat} (h : Sgn x) (hk : k = 10 ∨ k = 32) : x ≠ k := by
  rcases h with rfl | rfl | rfl <;> omega
theorem cb_no {l : L} {k : Nat} (h : ∀ c ∈ l, Sgn c) (hk : k = 10 ∨ k = 32) : k ∉ l := fun hm => sgn_no (h k hm) hk rfl
theorem lines_no {n : Nat} {t : L} {chs : List (L × L)} {cov : Option (List L)} (g : GoodSheet n t chs cov) : ∀ l ∈ linesOf t chs cov, (10 : Nat) ∉ l := by
  intro l hl
  rcases List.mem_cons.mp hl with rfl | hl
  · intro h
    rcases List.mem_append.mp h with h | h
    · exact absurd h (by decide)
    · exact cb_no g.tb.sg (.inl rfl) h
  rcases List.mem_append.mp hl with hl | hl
  · obtain ⟨ch, hc, rfl⟩ := List.mem_map.mp hl
    have gc := g.good ch hc
    intro h
    rcases List.mem_append.mp h with h | h
    · rcases List.mem_append.mp h with h | h
      · rcases List.mem_append.mp h with h | h
        · exact absurd h (by decide)
        · exact cb_no gc.a.cb.sg (.inl rfl) h
      · exact absurd h (by decide)
    · exact cb_no gc.b.cb.sg (.inl rfl) h
  · cases cov with
    | none => cases hl
    | some cs =>
      rcases List.mem_cons.mp hl with rfl | hl
      · decide
      · obtain ⟨c, hc, rfl⟩ := List.mem_map.mp hl
        intro h
        rcases List.mem_append.mp h with h | h
        · exact absurd h (by decide)
        · exact cb_no (g.cubes cs rfl c hc).sg (.inl rfl) h
/-- the lines, each with its end, are the joined lines with an end -/
theorem flat_join : ∀ {ls : List L}, ls ≠ [] → (ls.flatMap fun l => l ++ [10]) = TL.joinL [10] ls ++ [10]
  | [], h => absurd rfl h
  | [l], _ => by
    show (l ++ [10]) ++ [] = l ++ [10]
    rw [List.append_nil]
  | l :: m :: r, _ => by
    have ih := flat_join (ls := m :: r) (by simp)
    rw [List.flatMap_cons, ih]
    show l ++ [10] ++ (TL.joinL [10] (m :: r) ++ [10]) = l ++ ([10] ++ TL.joinL [10] (m :: r)) ++ [10]
    simp only [List.append_assoc]
theorem join_end : ∀ {ls : List L}, ls ≠ [] → TL.joinL [10] (ls ++ [[]]) = TL.joinL [10] ls ++ [10]
  | [], h => absurd rfl h
  | [l], _ => by
    show l ++ ([10] ++ []) = l ++ [10]
    rw [List.append_nil]
  | l :: m :: r, _ => by
    have ih := join_end (ls := m :: r) (by simp)
    show l ++ ([10] ++ TL.joinL [10] ((m :: r) ++ [[]])) = l ++ ([10] ++ TL.joinL [10] (m :: r)) ++ [10]
    rw [ih]
    simp only [List.append_assoc]
theorem join_nil : ∀ ls : List L, TL.joinL [] ls = ls.flatten
  | [] => rfl
  | [l] => by
    show l = l ++ []
    rw [List.append_nil]
  | l :: m :: r => by
    show l ++ ([] ++ TL.joinL [] (m :: r)) = l ++ (m :: r).flatten
    rw [join_nil (m :: r), List.nil_append]
theorem lines_ne (t : L) (chs : List (L × L)) (cov : Option (List L)) : linesOf t chs cov ≠ [] := by
  unfold linesOf
  simp
theorem sheet_join (t : L) (chs : List (L × L)) (cov : Option (List L)) : sheet t chs cov = TL.joinL [10] (linesOf t chs cov ++ [[]]) := by
  rw [join_end (lines_ne t chs cov)]
  exact flat_join (lines_ne t chs cov)
theorem lineT_join (t : L) : lineT t = TL.joinL [32] [q "table", t] := rfl
theorem lineC_join (ch : L × L) : lineC ch = TL.joinL [32] [q "change", ch.1, ch.2] := by
  show q "change " ++ ch.1 ++ q " " ++ ch.2 = q "change" ++ ([32] ++ (ch.1 ++ ([32] ++ ch.2)))
  have e : q "change " = q "change" ++ [32] := by decide
  have e2 : q " " = [32] := by decide
  rw [e, e2]
  simp only [List.append_assoc]
theorem lineP_join (c : L) : lineP c = TL.joinL [32] [q "product", c] := rfl
theorem lineC_len {n : Nat} {t : L} {ch : L × L} (g : GoodCh n t ch) (hn : n ≤ 4) : (lineC ch).length ≤ 16 := by
  unfold lineC
  rw [List.length_append, List.length_append, List.length_append, g.a.len, g.b.len]
  have e : (q "change ").length = 7 := by decide
  have e2 : (q " ").length = 1 := by decide
  omega
theorem lineP_len {n : Nat} {c : L} (g : Cb n c) (hn : n ≤ 4) : (lineP c).length ≤ 12 := by
  unfold lineP
  rw [List.length_append, g.len]
  have e : (q "product ").length = 8 := by decide
  omega
theorem lineT_len {n : Nat} {t : L} (g : Tb n t) : (lineT t).length ≤ 22 := by
  unfold lineT
  rw [List.length_append, g.len]
  have e : (q "table ").length = 6 := by decide
  have := pow_le g.hi
  omega
theorem line_len {n : Nat} {t : L} {chs : List (L × L)} {cov : Option (List L)} (g : GoodSheet n t chs cov) : ∀ l ∈ linesOf t chs cov, l.length ≤ 22 := by
  intro l hl
  rcases List.mem_cons.mp hl with rfl | hl
  · exact lineT_len g.tb
  rcases List.mem_append.mp hl with hl | hl
  · obtain ⟨ch, hc, rfl⟩ := List.mem_map.mp hl
    have := lineC_len (g.good ch hc) g.tb.hi
    omega
  · cases cov with
    | none => cases hl
    | some cs =>
      rcases List.mem_cons.mp hl with rfl | hl
      · decide
      · obtain ⟨c, hc, rfl⟩ := List.mem_map.mp hl
        have := lineP_len (g.cubes cs rfl c hc) g.tb.hi
        omega
theorem lines_many {n : Nat} {t : L} {chs : List (L × L)} {cov : Option (List L)} (g : GoodSheet n t chs cov) : (linesOf t chs cov).length ≤ 50 := by
  unfold linesOf
  rw [List.length_cons, List.length_append, List.length_map]
  have h1 := g.few
  cases cov with
  | none =>
    show chs.length + 0 + 1 ≤ 50
    omega
  | some cs =>
    show chs.length + (q "cover" :: cs.map lineP).length + 1 ≤ 50
    rw [List.length_cons, List.length_map]
    have := g.many cs rfl
    omega
theorem flat_le : ∀ (ls : List L), (∀ l ∈ ls, l.length ≤ 22) → (ls.flatMap fun l => l ++ [10]).length ≤ 23 * ls.length
  | [], _ => Nat.le_refl _
  | l :: r, h => by
    have ih := flat_le r fun m hm => h m (List.mem_cons_of_mem _ hm)
    have hl := h l List.mem_cons_self
    have e1 : ([10] : L).length = 1 := rfl
    have e2 : (l :: r).length = r.length + 1 := rfl
    rw [List.flatMap_cons, List.length_append, List.length_append, e1, e2]
    omega
theorem sheet_len {n : Nat} {t : L} {chs : List (L × L)} {cov : Option (List L)} (g : GoodSheet n t chs cov) : (sheet t chs cov).length ≤ 1150 := by
  have h1 := flat_le _ (line_len g)
  have h2 := lines_many g
  unfold sheet
  omega
end Sc

namespace Sc
open PySem PySem.Spec PyProof.Rows L2
/-- what enumerate walks within: the record at it, told by tn -/
structure EnumSrc (P : Program) (w : World) (K : PySem.W.Frag) (it : Addr) (tn : Nat → Heap → Prop) (go stop : Nat → Hp → Prop) (at_ : Nat → Hp → V → Prop) : Prop where
  obj : ∀ i h, tn i h → ∃ o, h.get? it = some o ∧ ∀ v, o.data ≠ .cell v
  keep : ∀ i h h', tn i h → (∀ o, h.get? it = some o → h'.get? it = some o) → tn i h'
  item : ∀ (X : Cx), X.prog = P → X.w = w → X.K = K → X.calm = true → ∀ (i : Nat) (pins : List (Addr × Obj)) (s : Shared) (σ : L2.St) (H : Hp), Inv X pins σ H s → tn i s.heap → go i H →
    ∃ (fp : List Addr) (n : Nat) (Pv : Nat → Value → Prop) (St : Nat → Heap → Prop), Draws P w X.A.in1 it fp n Pv St ∧ St i s.heap ∧ i < n ∧ (∀ b ∈ fp, ∃ o, s.heap.get? b = some o ∧ o.cls ≠ .type "enumerate") ∧
      (∀ h', St (i + 1) h' → tn (i + 1) h') ∧ ∀ u, Pv i u → ∃ x, RelV x u ∧ at_ i H x
  done : ∀ (X : Cx), X.prog = P → X.w = w → X.K = K → X.calm = true → ∀ (i : Nat) (pins : List (Addr × Obj)) (s : Shared) (σ : L2.St) (H : Hp), Inv X pins σ H s → tn i s.heap → stop i H →
    ∃ (fp : List Addr) (Pv : Nat → Value → Prop) (St : Nat → Heap → Prop), Draws P w X.A.in1 it fp i Pv St ∧ St i s.heap
def Itx (k0 : Int) (go stop : Nat → Hp → Prop) (at_ : Nat → Hp → V → Prop) : It :=
  ⟨go, fun i H v H' => ∃ T x, v = .ref T ∧ H T = none ∧ H' = upd H T (.tup [.int (k0 + (i : Nat)), x]) ∧ at_ i H x, stop⟩
theorem turn_enumX {P : Program} {w : World} {K : PySem.W.Frag} {elts : List Expr} {kk : Nat} {tpos : Pos} {e it : Addr} {tn : Nat → Heap → Prop} {go stop : Nat → Hp → Prop} {at_ : Nat → Hp → V → Prop} (k0 : Int)
    (S : EnumSrc P w K it tn go stop at_) (hei : e ≠ it) :
    Turn P w K (.Tuple elts kk tpos) (Itx k0 go stop at_) [e, it] e (fun i h => (∃ old, IsEnum h e it (k0 + (i : Nat)) old) ∧ tn i h) where
  mem := by simp
  obj := fun i h st b hb => by
    obtain ⟨⟨old, he⟩, ht⟩ := st
    have e' : b = e ∨ b = it := by simpa using hb
    rcases e' with rfl | rfl
    · exact ⟨_, he, fun v q => nomatch q⟩
    · exact S.obj i h ht
  keep := fun i h h' st k => let ⟨⟨old, he⟩, ht⟩ := st; ⟨⟨old, k e (by simp) _ he⟩, S.keep i h h' ht fun o q => k it (by simp) o q⟩
  item := by
    intro X hP hw hK hc i pins s σ H E I hf st hg
    obtain ⟨⟨old, he⟩, ht⟩ := st
    obtain ⟨fp, n, Pv, St, D, hst, hlt, hcl, hnx, hat⟩ := S.item X hP hw hK hc i pins s σ H I ht hg
    subst hP hw hK
    have hef : e ∉ fp := fun hm => by
      obtain ⟨o, ho, hne⟩ := hcl e hm
      have he' : s.heap.get? e = some _ := he
      rw [ho] at he'
      cases he'
      exact hne rfl
    have hel : e < s.heap.objs.size := Heap.lt_size he
    have hil : it < s.heap.objs.size := by obtain ⟨o, q, _⟩ := S.obj i s.heap ht; exact Heap.lt_size q
    refine wpAny_pyNext_enum_itemC D he hst hlt hei hef fun u h' tk hP ho hs' hT hsz hk => ?_
    obtain ⟨x, rx, ax⟩ := hat u hP
    refine ⟨_, rfl, wpAny_letOwnedTupleGo_enum (s := { s with heap := h', toks := tk + 1 }) ho fun h'' he' sb => ?_⟩
    have hT2 : h''.get? s.heap.objs.size = some { cls := .type "tuple", data := .seq #[.int (k0 + (i : Nat)) tk, u] } := (sb.2 _ (Nat.ne_of_gt hel)).trans hT
    have new : ObjOk X.prog X.w (upd H s.heap.objs.size (.tup [.int (k0 + (i : Nat)), x])) h'' s.heap.objs.size (.tup [.int (k0 + (i : Nat)), x]) :=
      ⟨by show 2 ≤ sizeLine; decide, [.int (k0 + (i : Nat)) tk, u], .cons ⟨_, rfl⟩ (.cons rx .nil), ⟨_, hT2, rfl, _, rfl⟩⟩
    have I1 : Inv X pins σ (upd H s.heap.objs.size (.tup [.int (k0 + (i : Nat)), x])) { s with heap := h'', toks := tk + 1 } :=
      I.turnedNew (ch := [e, it]) (fun b ob hb q => (sb.2 b (fun z => hb (by simp [z]))).trans (hk b ob (fun z => hb (by simp [z])) (fun z => hb (by simp [z])) q)) hf (Nat.le_refl _) new
    refine ⟨.ref s.heap.objs.size, _, I1, rfl, ⟨_, x, rfl, I.hok.fresh (Nat.le_refl _), rfl, ax⟩, ⟨⟨u, ?_⟩, S.keep _ _ _ (hnx _ hs') fun o q => (sb.2 it (Ne.symm hei)).trans q⟩, fun b hb => ?_⟩
    · have e1 : k0 + ((i + 1 : Nat) : Int) = k0 + ((i : Nat) : Int) + 1 := by omega
      rw [e1]
      exact he'
    · have hb' : b < s.heap.objs.size := by
        have e' : b = e ∨ b = it := by simpa using hb
        rcases e' with z | z
        · rw [z]; exact hel
        · rw [z]; exact hil
      rw [upd_ne (Nat.ne_of_lt hb')]
      exact (hf b hb).1
  done := by
    intro X hP hw hK hc i pins s σ H E I hf st hg
    obtain ⟨⟨old, he⟩, ht⟩ := st
    obtain ⟨fp, Pv, St, D, hst⟩ := S.done X hP hw hK hc i pins s σ H I ht hg
    subst hP hw hK
    obtain ⟨f0, f1, f2, f3, f4, f5⟩ := hf it (by simp)
    exact wpAny_pyNext_enum_endD D he hst fun h' eb => ⟨rfl, I.turned (t' := s.toks) (fun b o hb q => eb b o hb q) f0 f1 f3 f4 f5⟩
  self := fun A i s Q E st h => let ⟨⟨_, he⟩, _⟩ := st; wpAny_pyIter_enum he h
theorem hd_in1 {X : Cx} {pins : List (Addr × Obj)} {σ : L2.St} {H : Hp} {s : Shared} (I : Inv X pins σ H s) (hc : X.calm = true) : X.A.in1.handled = none := I.ok.hd hc
theorem src_text {P : Program} {w : World} {K : PySem.W.Frag} (it : Addr) (z : Str) (t : Tok) :
    EnumSrc P w K it (fun i h => h.IsStrIter it (strIterType z) z t i) (fun i _ => i < z.cps.size) (fun i _ => i = z.cps.size) (fun i _ x => ∃ c, z.cps[i]? = some c ∧ x = .str ⟨#[c]⟩) where
  obj := fun i h st => let ⟨o, e, c, d⟩ := st; ⟨o, e, fun v q => by rw [d] at q; cases q⟩
  keep := fun i h h' st k => let ⟨o, ho, r⟩ := st; ⟨o, k o ho, r⟩
  item := fun X hP hw hK hc i pins s σ H I st hg => by
    subst hP hw hK
    refine ⟨_, _, _, _, Draws.text (hd_in1 I hc) it z t, st, hg, fun b hb => ?_, fun h' q => q, fun u ⟨c, t', hx, e⟩ => ⟨.str ⟨#[c]⟩, ⟨t', e⟩, c, hx, rfl⟩⟩
    obtain ⟨o, ho, hcl, _⟩ := st
    rw [List.mem_singleton.mp hb]
    refine ⟨o, ho, ?_⟩
    rw [hcl]
    unfold strIterType
    split <;> decide
  done := fun X hP hw hK hc i pins s σ H I st hg => by
    subst hP hw hK
    have e : i = z.cps.size := hg
    rw [e]
    rw [e] at st
    exact ⟨_, _, _, Draws.text (hd_in1 I hc) it z t, st⟩
theorem src_tuple {P : Program} {w : World} {K : PySem.W.Frag} (it a : Addr) (ne : a ≠ it) :
    EnumSrc P w K it (fun i h => h.IsTupleIter it a i) (fun i H => ∃ xs, SqT K H a xs ∧ i < xs.length) (fun i H => ∃ xs, SqT K H a xs ∧ i = xs.length) (fun i H x => ∀ xs, SqT K H a xs → xs[i]? = some x) where
  obj := fun i h st => let ⟨o, e, c, d⟩ := st; ⟨o, e, fun v q => by rw [d] at q; cases q⟩
  keep := fun i h h' st k => st.at k
  item := fun X hP hw hK hc i pins s σ H I st hg => by
    subst hP hw hK
    obtain ⟨xs, hq, hx⟩ := hg
    obtain ⟨its, rv, p, hz⟩ := I.tuple hq
    have p' : s.heap.IsTuple a its.toArray := p
    have hl := rv.length
    refine ⟨_, _, _, _, Draws.tuple (hd_in1 I hc) it a ne its.toArray, ⟨st, p'⟩, by rw [List.size_toArray]; omega, fun b hb => ?_, fun h' q => q.1, fun u e => ?_⟩
    · obtain ⟨o, ho, hcl, _⟩ := st
      obtain ⟨o2, ho2, hcl2, _⟩ := p'
      have eb : b = it ∨ b = a := by simpa using hb
      rcases eb with rfl | rfl
      · exact ⟨o, ho, by rw [hcl]; decide⟩
      · exact ⟨o2, ho2, by rw [hcl2]; decide⟩
    · have hi : xs[i]? = some xs[i] := List.getElem?_eq_getElem hx
      obtain ⟨u', hu', ru⟩ := rv.get hi
      have : its[i]? = some u := by simpa using e
      rw [hu'] at this
      cases this
      exact ⟨xs[i], ru, fun ys hy => by rw [I.tuple_inj hy hq]; exact hi⟩
  done := fun X hP hw hK hc i pins s σ H I st hg => by
    subst hP hw hK
    obtain ⟨xs, hq, hx⟩ := hg
    obtain ⟨its, rv, p, hz⟩ := I.tuple hq
    have p' : s.heap.IsTuple a its.toArray := p
    have hl := rv.length
    have e : i = its.toArray.size := by rw [List.size_toArray]; omega
    rw [e]
    rw [e] at st
    exact ⟨_, _, _, Draws.tuple (hd_in1 I hc) it a ne its.toArray, st, p'⟩
theorem src_list {P : Program} {w : World} {K : PySem.W.Frag} (it a : Addr) (ne : a ≠ it) :
    EnumSrc P w K it (fun i h => h.IsListIter it a i) (fun i H => ∃ xs, SqL K H a xs ∧ i < xs.length) (fun i H => ∃ xs, SqL K H a xs ∧ i = xs.length) (fun i H x => ∀ xs, SqL K H a xs → xs[i]? = some x) where
  obj := fun i h st => let ⟨o, e, c, d⟩ := st; ⟨o, e, fun v q => by rw [d] at q; cases q⟩
  keep := fun i h h' st k => st.at k
  item := fun X hP hw hK hc i pins s σ H I st hg => by
    subst hP hw hK
    obtain ⟨xs, hq, hx⟩ := hg
    obtain ⟨its, rv, p, hz⟩ := I.list hq
    have p' : s.heap.IsList a its.toArray := p.isList
    have hl := rv.length
    refine ⟨_, _, _, _, Draws.list (hd_in1 I hc) it a ne its.toArray, ⟨st, p'⟩, by rw [List.size_toArray]; omega, fun b hb => ?_, fun h' q => q.1, fun u e => ?_⟩
    · obtain ⟨o, ho, hcl, _⟩ := st
      obtain ⟨o2, ho2, hcl2, _⟩ := p'
      have eb : b = it ∨ b = a := by simpa using hb
      rcases eb with rfl | rfl
      · exact ⟨o, ho, by rw [hcl]; decide⟩
      · exact ⟨o2, ho2, by rw [hcl2]; decide⟩
    · have hi : xs[i]? = some xs[i] := List.getElem?_eq_getElem hx
      obtain ⟨u', hu', ru⟩ := rv.get hi
      have : its[i]? = some u := by simpa using e
      rw [hu'] at this
      cases this
      exact ⟨xs[i], ru, fun ys hy => by rw [I.list_inj hy hq]; exact hi⟩
  done := fun X hP hw hK hc i pins s σ H I st hg => by
    subst hP hw hK
    obtain ⟨xs, hq, hx⟩ := hg
    obtain ⟨its, rv, p, hz⟩ := I.list hq
    have p' : s.heap.IsList a its.toArray := p.isList
    have hl := rv.length
    have e : i = its.toArray.size := by rw [List.size_toArray]; omega
    rw [e]
    rw [e] at st
    exact ⟨_, _, _, Draws.list (hd_in1 I hc) it a ne its.toArray, st, p'⟩
set_option maxHeartbeats 1000000 in
theorem meets_enum1 {v : Value} {o : Obj} {H : Heap → Prop} (B : Begins v o H) :
    Meets (Builtin.«enumerate.__new__» ⟨[.type "enumerate", v], []⟩) (fun _ R s => H s.heap ∧
      R (.ok (.ret (.ref (s.heap.push o).objs.size))) { s with heap := (s.heap.push o).push { cls := .type "enumerate", data := .fields #[.none, .bool false, .ref s.heap.objs.size, rawInt 0, .none, .none] } }) :=
  .of_wp fun prog w A R s h => by
    obtain ⟨hp, g, d, tk, os⟩ := s
    obtain ⟨h1, h⟩ := h
    have hsub := sub_enumerate
    have q1 : ∀ {A' : Around} {E : Value → Shared → Prop} {Q : Value → Shared → Prop}, Q (.ref hp.objs.size) ⟨hp.push o, g, d, tk, os⟩ → wpAny (model prog w) A' (pyIter v) Q E ⟨hp, g, d, tk, os⟩ :=
      fun q => B.iter prog w _ _ ⟨hp, g, d, tk, os⟩ _ h1 q
    wp_walk using q1
    refine wpAny_stack_any fun st => wpAny_pure ?_
    split
    · rename_i c _ _ _ _ _
      cases (c == Value.type "enumerate")
      all_goals (wp_walk using q1; exact ⟨_, rfl, h⟩)
    · wp_walk using q1
      exact ⟨_, rfl, h⟩
section
variable {prog : Program} {w : World} {A : Around} {E : Value → Shared → Prop} {s : Shared}
theorem call_enum1 {v : Value} {o : Obj} {H : Heap → Prop} {Q : Value → Shared → Prop} (B : Begins v o H) (h1 : H s.heap)
    (h : ∀ h', IsEnum h' (s.heap.objs.size + 1) s.heap.objs.size 0 .none → h'.get? s.heap.objs.size = some o →
      (∀ b o, s.heap.get? b = some o → h'.get? b = some o) → Q (.ref (s.heap.objs.size + 1)) { s with heap := h' }) :
    wpAny (model prog w) A (call (.type "enumerate") [v]) Q E s := by
  refine callType_new F.called_enumerate (by decide) (F.typeCall_enumerate_1 _) (F.newCall_enumerate_1 _) (fun obj => F.args_object_init_2 obj _) F.entry_enumerate_new (meets_enum1 B) ⟨h1, ?_⟩
  have hz : (s.heap.push o).objs.size = s.heap.objs.size + 1 := Heap.size_push ..
  show _ ∧ _
  rw [hz]
  have he : IsEnum ((s.heap.push o).push { cls := .type "enumerate", data := .fields #[.none, .bool false, .ref s.heap.objs.size, rawInt 0, .none, .none] }) (s.heap.objs.size + 1) s.heap.objs.size 0 .none := by
    have z := Heap.get?_push_size (s.heap.push o) (o := { cls := .type "enumerate", data := .fields #[.none, .bool false, .ref s.heap.objs.size, rawInt 0, .none, .none] }) rfl
    rw [hz] at z
    exact z
  exact ⟨⟨_, he, rfl⟩, h _ he (Heap.get?_push_of_some _ (Heap.get?_push_size _ B.free)) fun b o x => Heap.get?_push_of_some _ (Heap.get?_push_of_some _ x)⟩
end
section
variable {X : Cx} {p pos tpos : Pos} {elts : List Expr} {kk : Nat}
/-- behind a begun enumerate -/
theorem enum_in {pins : List (Addr × Obj)} {σ : L2.St} {H1 : Hp} {s1 : Shared} {h' : Heap} {k0 : Int} {R : It → Hp → Prop} {go stop : Nat → Hp → Prop} {at_ : Nat → Hp → V → Prop} {tn : Nat → Heap → Prop} (I1 : Inv X pins σ H1 s1)
    (S : EnumSrc X.prog X.w X.K s1.heap.objs.size tn go stop at_) (he : IsEnum h' (s1.heap.objs.size + 1) s1.heap.objs.size k0 .none) (ht : tn 0 h') (hk : ∀ b o, s1.heap.get? b = some o → h'.get? b = some o)
    (q : R (Itx k0 go stop at_) H1) : PIE X pins σ (.Tuple elts kk tpos) R (.ref (s1.heap.objs.size + 1)) { s1 with heap := h' } := by
  have I2 : Inv X pins σ H1 { s1 with heap := h' } := I1.kept (t' := s1.toks) hk
  refine ⟨s1.heap.objs.size + 1, [s1.heap.objs.size + 1, s1.heap.objs.size], _, _, H1, rfl, I2, turn_enumX k0 S (Nat.succ_ne_self _), ⟨⟨.none, ?_⟩, ht⟩, fun b hb => ?_, q⟩
  · have e : k0 + ((0 : Nat) : Int) = k0 := by omega
    rw [e]
    exact he
  · have e' : b = s1.heap.objs.size + 1 ∨ b = s1.heap.objs.size := by simpa using hb
    have hle : s1.heap.objs.size ≤ b := by
      rcases e' with z | z
      · rw [z]; exact Nat.le_add_right _ _
      · rw [z]; exact Nat.le_refl _
    exact I1.fpOk hle (I1.hok.fresh hle)
/-- what enumerate is to walk: a text; a tuple; a list -/
def ItS (z : Str) : It := Itx 0 (fun i _ => i < z.cps.size) (fun i _ => i = z.cps.size) (fun i _ x => ∃ c, z.cps[i]? = some c ∧ x = .str ⟨#[c]⟩)
def ItT (K : PySem.W.Frag) (a : Addr) : It := Itx 0 (fun i H => ∃ xs, SqT K H a xs ∧ i < xs.length) (fun i H => ∃ xs, SqT K H a xs ∧ i = xs.length) (fun i H x => ∀ xs, SqT K H a xs → xs[i]? = some x)
def ItL (K : PySem.W.Frag) (k0 : Int) (a : Addr) : It := Itx k0 (fun i H => ∃ xs, SqL K H a xs ∧ i < xs.length) (fun i H => ∃ xs, SqL K H a xs ∧ i = xs.length) (fun i H x => ∀ xs, SqL K H a xs → xs[i]? = some x)
theorem ne_size {s1 : Shared} {a : Addr} (h : ∃ o, s1.heap.get? a = some o) : a ≠ s1.heap.objs.size := by
  obtain ⟨o, e⟩ := h
  exact Nat.ne_of_lt (Heap.lt_size e)
def iEnumS (ta : TA) : TI := fun σ H R => ta σ H fun vs H1 => ∃ z, vs = [.str z] ∧ R (ItS z) H1
theorem pi_enumS {e : Expr} {ta : TA} (hg : Gl X "enumerate") (hm : X.mg "enumerate" = none) (ha : PA X [e] ta) (hs : starEach [e] X.env = [(false, eval e X.env)] := by rfl) :
    PI X (.Tuple elts kk tpos) (.Call (.Name "enumerate" p) [e] [] pos) (iEnumS ta) := by
  refine ⟨fun pins s σ H R I h => ?_⟩
  refine Call_ (ld_blt I hg hm boot_enumerate (PyProof.Rows.callWith_type1 (thn (ha.run pos pins s σ H _ I h) fun us s1 hh => ?_) hs rfl))
  obtain ⟨vs, H1, I1, r1, z, ex, q⟩ := hh
  subst ex
  cases r1 with
  | cons r rr =>
    cases rr
    obtain ⟨t, rfl⟩ := r
    refine call_enum1 (begins_text z t) trivial fun h' he hit hk => wpAny_pyIter_enum he ?_
    exact enum_in I1 (src_text _ z t) he ⟨_, hit, rfl, rfl⟩ hk q
def iEnumT (K : PySem.W.Frag) (ta : TA) : TI := fun σ H R => ta σ H fun vs H1 => ∃ a xs, vs = [.ref a] ∧ SqT K H1 a xs ∧ R (ItT K a) H1
theorem pi_enumT {e : Expr} {ta : TA} (hg : Gl X "enumerate") (hm : X.mg "enumerate" = none) (ha : PA X [e] ta) (hs : starEach [e] X.env = [(false, eval e X.env)] := by rfl) :
    PI X (.Tuple elts kk tpos) (.Call (.Name "enumerate" p) [e] [] pos) (iEnumT X.K ta) := by
  refine ⟨fun pins s σ H R I h => ?_⟩
  refine Call_ (ld_blt I hg hm boot_enumerate (PyProof.Rows.callWith_type1 (thn (ha.run pos pins s σ H _ I h) fun us s1 hh => ?_) hs rfl))
  obtain ⟨vs, H1, I1, r1, a, xs, ex, hq, q⟩ := hh
  subst ex
  cases r1 with
  | cons r rr =>
    cases rr
    cases r
    obtain ⟨its, rv, p', hz⟩ := I1.tuple hq
    have p2 : s1.heap.IsTuple a its.toArray := p'
    refine call_enum1 (begins_tuple a its.toArray) p2 fun h' he hit hk => wpAny_pyIter_enum he ?_
    obtain ⟨o, ho, _⟩ := p2
    exact enum_in I1 (src_tuple _ a (ne_size ⟨o, ho⟩)) he ⟨_, hit, rfl, rfl⟩ hk q
def iEnumL (K : PySem.W.Frag) (ta : TA) : TI := fun σ H R => ta σ H fun vs H1 => ∃ a xs, vs = [.ref a] ∧ SqL K H1 a xs ∧ R (ItL K 0 a) H1
theorem pi_enumL {e : Expr} {ta : TA} (hg : Gl X "enumerate") (hm : X.mg "enumerate" = none) (ha : PA X [e] ta) (hs : starEach [e] X.env = [(false, eval e X.env)] := by rfl) :
    PI X (.Tuple elts kk tpos) (.Call (.Name "enumerate" p) [e] [] pos) (iEnumL X.K ta) := by
  refine ⟨fun pins s σ H R I h => ?_⟩
  refine Call_ (ld_blt I hg hm boot_enumerate (PyProof.Rows.callWith_type1 (thn (ha.run pos pins s σ H _ I h) fun us s1 hh => ?_) hs rfl))
  obtain ⟨vs, H1, I1, r1, a, xs, ex, hq, q⟩ := hh
  subst ex
  cases r1 with
  | cons r rr =>
    cases rr
    cases r
    obtain ⟨its, rv, p', hz⟩ := I1.list hq
    have p2 : s1.heap.IsList a its.toArray := p'.isList
    refine call_enum1 (begins_list a its.toArray) p2 fun h' he hit hk => wpAny_pyIter_enum he ?_
    obtain ⟨o, ho, _⟩ := p2
    exact enum_in I1 (src_list _ a (ne_size ⟨o, ho⟩)) he ⟨_, hit, rfl, rfl⟩ hk q
/-- enumerate(list, k0) -/
def iEnumL2 (K : PySem.W.Frag) (ta : TA) : TI := fun σ H R => ta σ H fun vs H1 => ∃ a xs k0, vs = [.ref a, .int k0] ∧ 0 ≤ k0 ∧ k0 < 1000 ∧ SqL K H1 a xs ∧ R (ItL K k0 a) H1
theorem pi_enumL2 {e e2 : Expr} {ta : TA} (hg : Gl X "enumerate") (hm : X.mg "enumerate" = none) (ha : PA X [e, e2] ta) (hs : starEach [e, e2] X.env = (false, eval e X.env) :: starEach [e2] X.env := by rfl) (hpl : (backTo pos (starEach [e2] X.env)).any (·.1) = false := by rfl) :
    PI X (.Tuple elts kk tpos) (.Call (.Name "enumerate" p) [e, e2] [] pos) (iEnumL2 X.K ta) := by
  refine ⟨fun pins s σ H R I h => ?_⟩
  refine Call_ (ld_blt I hg hm boot_enumerate (PyProof.Rows.callWith_type1 (thn (ha.run pos pins s σ H _ I h) fun us s1 hh => ?_) hs hpl))
  obtain ⟨vs, H1, I1, r1, a, xs, k0, ex, h0, h1, hq, q⟩ := hh
  subst ex
  cases r1 with
  | cons r rr =>
    cases rr with
    | cons r2 r3 =>
      cases r3
      cases r
      obtain ⟨t, rfl⟩ := r2
      obtain ⟨its, rv, p', hz⟩ := I1.list hq
      have p2 : s1.heap.IsList a its.toArray := p'.isList
      refine enum_begins (begins_list a its.toArray) p2 (by omega) (by omega) fun h' he hit _ hk => wpAny_pyIter_enum he ?_
      obtain ⟨o, ho, _⟩ := p2
      exact enum_in I1 (src_list _ a (ne_size ⟨o, ho⟩)) he ⟨_, hit, rfl, rfl⟩ hk q
end
def YEn (k0 : Int) (f : Nat → Option V) : Nat → Hp → V → Hp → Prop := fun i H v H' => ∃ T x, v = .ref T ∧ H T = none ∧ H' = upd H T (.tup [.int (k0 + (i : Nat)), x]) ∧ f i = some x
theorem walk_enS {z : Str} : Walk (ItS z) z.cps.size (fun _ => True) (YEn 0 fun i => z.cps[i]?.map fun c => .str ⟨#[c]⟩) :=
  ⟨fun i H hi _ => hi, fun H _ => rfl, fun i H x H' hi _ y => by
    obtain ⟨T, v, e1, e2, e3, c, hc, e4⟩ := y
    exact ⟨T, v, e1, e2, e3, by show (z.cps[i]?).map _ = _; rw [hc, e4] <;> rfl⟩⟩
theorem walk_enT {K : PySem.W.Frag} {a : Addr} {xs : List V} : Walk (ItT K a) xs.length (fun H => SqT K H a xs) (YEn 0 fun i => xs[i]?) :=
  ⟨fun i H hi h => ⟨xs, h, hi⟩, fun H h => ⟨xs, h, rfl⟩, fun i H x H' hi h y => by
    obtain ⟨T, v, e1, e2, e3, hv⟩ := y
    exact ⟨T, v, e1, e2, e3, hv xs h⟩⟩
theorem walk_enL {K : PySem.W.Frag} {k0 : Int} {a : Addr} {xs : List V} : Walk (ItL K k0 a) xs.length (fun H => SqL K H a xs) (YEn k0 fun i => xs[i]?) :=
  ⟨fun i H hi h => ⟨xs, h, hi⟩, fun H h => ⟨xs, h, rfl⟩, fun i H x H' hi h y => by
    obtain ⟨T, v, e1, e2, e3, hv⟩ := y
    exact ⟨T, v, e1, e2, e3, hv xs h⟩⟩
end Sc

namespace Sc
open PySem PySem.Spec PyProof.Rows L2
def rGetL (K : PySem.W.Frag) : V → V → Hp → VK → Prop := fun o i H Q => ∃ (a : Addr) (xs : List V) (j : Nat) (v : V), o = .ref a ∧ i = .int (j : Nat) ∧ SqL K H a xs ∧ j < 1000 ∧ xs[j]? = some v ∧ Q v H
theorem pget_list {X : Cx} : PGet X (rGetL X.K) := by
  intro pins s σ H o i ov iv Q I ro ri h
  obtain ⟨a, xs, j, v, rfl, rfl, hq, hj, hv, q⟩ := h
  cases ro
  obtain ⟨t, rfl⟩ := ri
  obtain ⟨its, rv, pl, hz⟩ := I.list hq
  obtain ⟨u, hu, ru⟩ := rv.get hv
  exact wpAny_getItem_list pl.isList (Int.natCast_nonneg j) (by omega) (x := u) (by simpa using hu) ⟨v, H, I, ru, q⟩
def rRepC : R2 := fun x y H Q => ∃ (c n : Nat), x = .str (SX.S [c]) ∧ y = .int (n : Nat) ∧ n ≤ 1000 ∧ Q (.str (SX.S (List.replicate n c))) H
theorem small_tooLong {n : Nat} (h : n ≤ 1000) : Builtin.Str.tooLong n = false := by
  have h2 := small1000 h
  unfold Builtin.Str.tooLong
  exact decide_eq_false (by omega)
theorem mulOk_small (c n : Nat) (h : n ≤ 1000) : MulOk (SX.S [c]) ((n : Nat) : Int) := by
  have hl : (SX.S [c]).length = 1 := rfl
  refine ⟨?_, fun h1 _ => ?_, fun h1 _ => ?_⟩
  · rw [decide_eq_false (by omega), decide_eq_false (by omega)]
    rfl
  · rw [hl]
    intro z
    have h2 : (1 : Int) ≤ (2 ^ 63 - 1) / ((n : Nat) : Int) := by
      rw [Int.le_ediv_iff_mul_le (by omega)]
      omega
    have z' : (1 : Int) > (2 ^ 63 - 1) / ((n : Nat) : Int) := z
    omega
  · rw [hl, Int.toNat_natCast, Nat.one_mul]
    exact small_tooLong h
theorem op_repC {X : Cx} : OpR X (binaryOp .Mult) rRepC := by
  intro pins s σ H x y v u Q I rx ry h
  obtain ⟨c, n, rfl, rfl, hn, q⟩ := h
  obtain ⟨t, rfl⟩ := rx
  obtain ⟨t', rfl⟩ := ry
  have e : Txt.mul (SX.S [c]) ((n : Nat) : Int) = SX.S (List.replicate n c) := TL.ext_tl ((mul_one_list c ((n : Nat) : Int)).trans (by rw [Int.toNat_natCast] <;> rfl))
  refine SB.mul (mulOk_small c n hn) fun t' k => ?_
  rw [e]
  exact ⟨.str _, H, I.tok _, ⟨_, rfl⟩, q⟩
def rCountS (K : PySem.W.Frag) : V → List V → Hp → VK → Prop := fun x xs H Q => ∃ (p : Addr) (ys : List Str) (y : Str), x = .ref p ∧ xs = [.str y] ∧ SqL K H p (ys.map V.str) ∧ Q (.int ((ys.count y : Nat) : Int)) H
theorem holdAll_strs {h : Heap} : ∀ {ys : List Str} {us : List Value}, Vals (ys.map V.str) us → PySem.W.HoldAll h us ys
  | [], _, r => by
    cases r
    exact ⟨_, ReadsAll.nil⟩
  | y :: ys, _, r => by
    cases r with
    | cons r0 r1 =>
      obtain ⟨t, rfl⟩ := r0
      obtain ⟨as, z⟩ := holdAll_strs (h := h) r1
      exact ⟨_, ReadsAll.cons (Reads.str y t) z⟩
theorem mt_countS {X : Cx} (hu : X.A.units + 65 < cLine) : MtR X "list.count" (rCountS X.K) := by
  intro pins s σ H x xs v us Q I rx rxs h
  obtain ⟨p, ys, y, rfl, rfl, hs, q⟩ := h
  cases rx
  obtain ⟨u, rfl, ru⟩ := rxs.one
  obtain ⟨t, rfl⟩ := ru
  obtain ⟨its, rv, pl, hz⟩ := I.list hs
  refine PySem.W.count_list_datum (xs := ys) (x := y) pl.isList (by simpa using holdAll_strs rv) ⟨_, Reads.str y t⟩ ?_ ?_
  · have : PySem.W.Datum.depth Str ≤ 1 := by decide
    omega
  · have e : (ys.countP fun z => decide (z = y)) = ys.count y := by
      unfold List.count
      congr 1
    rw [e]
    exact ⟨.int _, H, I.tok _, ⟨_, rfl⟩, q⟩
section
variable {prog : Program} {w : World} {A : Around} {E : Value → Shared → Prop} {s : Shared}
theorem collect_listIter {it a : Addr} {items : Array Value} {Q : List Value → Shared → Prop} (hh : A.handled = none) (hit : s.heap.IsListIter it a 0) (hl : s.heap.IsList a items) (hne : a ≠ it) (hn : items.size ≤ sizeLine)
    (hQ : ∀ (h' : Heap) (tk : Nat), (∀ b o, b ≠ it → s.heap.get? b = some o → h'.get? b = some o) → Q items.toList { s with heap := h', toks := tk }) : wpAny (model prog w) A (collect (.ref it)) Q E s := by
  have W := (Walks.list (prog := prog) (w := w) (A := A.in1) hh it a hne items).toS
  obtain ⟨oi, hoi, hci, _⟩ := id hit
  obtain ⟨ol, hol, _⟩ := id hl
  refine wpAny_collect_iter (T := "list_iterator") (.inr (.inr (.inl rfl))) W (fun i s' st => ?_) ⟨hit, hl⟩ (fun b hb => ?_) (by simp) (fun s' acc hm ha => ?_) hn
  · obtain ⟨o, ho, hc, _⟩ := st.1
    exact ⟨o, ho, hc⟩
  · have e : b = it ∨ b = a := by simpa using hb
    rcases e with rfl | rfl
    · exact Heap.lt_size hoi
    · exact Heap.lt_size hol
  · have ea : acc = items := by
      refine Array.ext ha.1 fun i h1 h2 => ?_
      have z : items[i]? = some acc[i] := ha.2 i acc[i] (Array.getElem?_eq_getElem h1)
      rw [Array.getElem?_eq_getElem h2] at z
      exact (Option.some.inj z).symm
    rw [ea, Moved.eq_with hm]
    exact hQ s'.heap s'.toks fun b o hb e => hm.heap b o (fun z => hb (by simpa using z)) e
theorem unpackItems_star {a : Addr} {its : List Value} {z : Value} {Q : List Value → Shared → Prop} (hh : A.handled = none) (hl : s.heap.IsList a (its ++ [z]).toArray) (hn : (its ++ [z]).length ≤ sizeLine)
    (hQ : ∀ (h' : Heap) (tk : Nat), (∀ b o, s.heap.get? b = some o → h'.get? b = some o) → Q [.ref h'.objs.size, z] { s with heap := h'.push { cls := .type "list", data := .seq its.toArray }, toks := tk }) :
    wpAny (model prog w) A (unpackItems (.ref a) 2 (some 0)) Q E s := by
  have hlt : a ≠ s.heap.objs.size := by obtain ⟨o, ho, _⟩ := hl; exact Nat.ne_of_lt (Heap.lt_size ho)
  unfold unpackItems
  refine wpAny_bind ?_
  · unfold notIterableAtAll
    refine wpAny_bind (wpAny_specialOf hl.typeIs PySem.F.slot_list_iter.lookup ?_)
    refine wpAny_pure ?_
    simp only [Bool.false_eq_true, if_false]
    refine wpAny_bind (wpAny_holding (wpAny_pyIter_list hl ?_))
    refine wpAny_bind (wpAny_holding (wpAny_pure ?_))
    rw [if_neg (by simp)]
    refine wpAny_bind (wpAny_holding (collect_listIter hh ⟨_, Heap.get?_push_size _ rfl, rfl, rfl⟩ (hl.push _) hlt (by rw [List.size_toArray]; exact hn) fun h' tk hk => ?_))
    have e1 : (its ++ [z]).toArray.toList = its ++ [z] := by simp
    rw [e1]
    have e2 : (its ++ [z]).length - (2 - 1 - 0) = its.length := by simp
    rw [if_neg (by simp), e2]
    refine wpAny_bind (wpAny_newList ?_ ?_)
    · refine wpAny_pure ?_
      have e3 : (its ++ [z]).take its.length = its := by simp
      have e4 : (its ++ [z]).drop its.length = [z] := by simp
      rw [e3, e4]
      refine hQ h' tk fun b o e => hk b o (Nat.ne_of_lt (Heap.lt_size e)) (Heap.get?_push_of_some _ e)
    · rw [List.length_append] at hn
      simp
      omega
end
theorem vals_snoc : ∀ {xs : List V} {z : V} {us : List Value} {u : Value}, Vals (xs ++ [z]) (us ++ [u]) → Vals xs us ∧ RelV z u
  | [], z, [], u, r => by
    cases r with
    | cons a b => exact ⟨.nil, a⟩
  | [], z, w :: us, u, r => by
    cases r with
    | cons a b =>
      have := b.length
      simp at this
  | x :: xs, z, [], u, r => by
    cases r with
    | cons a b =>
      have := b.length
      simp at this
  | x :: xs, z, w :: us, u, r => by
    cases r with
    | cons a b =>
      obtain ⟨h1, h2⟩ := vals_snoc (xs := xs) (us := us) b
      exact ⟨.cons a h1, h2⟩
def gStar (K : PySem.W.Frag) (i j : Nat) : TG := fun v σ H Q => ∃ a xs z, v = .ref a ∧ SqL K H a (xs ++ [z]) ∧ ∀ p, H p = none → Q ((σ.set i (some (.ref p))).set j (some z)) (upd H p (.lst xs))
theorem pg_star {X : Cx} {i j k : Nat} {x y : Str} {px py ps pos : Pos} (hc : X.calm = true) (hN : X.N.Nodup) (hi : X.N[i]? = some x) (hx : Loc X.env.scope x) (hj : X.N[j]? = some y) (hy : Loc X.env.scope y)
    (fx : X.fn x = true ∨ X.env.scope.names.lookup x = some .local) (fy : X.fn y = true ∨ X.env.scope.names.lookup y = some .local) : PG X (.Tuple [.Starred (.Name x px) ps, .Name y py] k pos) (gStar X.K i j) := by
  refine ⟨fun pins s σ H v u Q I r h => ?_⟩
  obtain ⟨a, xs, z, rfl, hq, q⟩ := h
  cases r
  obtain ⟨its, rv, pl, hz⟩ := I.list hq
  obtain ⟨its0, u, rfl⟩ : ∃ its0 u, its = its0 ++ [u] := by
    have hne : its ≠ [] := fun e => by
      have := rv.length
      rw [e] at this
      simp at this
    exact ⟨its.dropLast, its.getLast hne, (List.dropLast_concat_getLast hne).symm⟩
  obtain ⟨rv0, ru⟩ := vals_snoc rv
  have e0 : assign (.Tuple [.Starred (.Name x px) ps, .Name y py] k pos) X.env (.ref a) = (do standAt pos; unpack (.ref a) [(true, assign (.Name x px) X.env), (false, assign (.Name y py) X.env)]) := rfl
  rw [e0]
  refine wpAny_bind (wpAny_standAt ?_)
  unfold unpack
  have hlen := rv.length
  refine wpAny_bind (wpAny_holding (unpackItems_star (I.ok.hd hc) pl.isList (by rw [← hlen]; exact hz) fun h' tk hk => ?_))
  have hsz : xs.length ≤ sizeLine := by
    rw [List.length_append] at hz
    omega
  have I1 : Inv X pins σ H { s with heap := h', toks := tk } := I.kept hk
  have I2 : Inv X pins σ (upd H h'.objs.size (.lst xs)) { s with heap := h'.push { cls := .type "list", data := .seq its0.toArray }, toks := tk } :=
    I1.laid (t' := tk) (fun b o e => Heap.get?_push_of_some _ e) (Nat.le_refl _) ⟨hsz, its0, 0, rv0, Heap.get?_push_size _ rfl⟩
  have hf : H h'.objs.size = none := I1.hok.fresh (Nat.le_refl _)
  refine wpAny_assignInOrder_more (wpAny_assign_Name (store_ok (v := V.ref h'.objs.size) I2 hN hi hx rfl (fun s2 I3 => ?_) fx))
  refine wpAny_assignInOrder_more (wpAny_assign_Name (store_ok I3 hN hj hy ru (fun s3 I4 => ?_) fy))
  exact wpAny_assignInOrder_none ⟨_, _, I4, q _ hf⟩
section
variable {X : Cx} {pins : List (Addr × Obj)} {σ : L2.St} {H : Hp} {s : Shared} {C : Addr}
theorem inst_of {a dx : Addr} {fs : List (Str × V)} (I : Inv X pins σ H s) (h : H a = some (.ins C dx fs)) : ∃ od, PySem.W.InstAt s.heap a (PySem.W.instObj C dx) C (some od) := by
  obtain ⟨mA, om, _⟩ := ins_get I.hok h
  obtain ⟨od, J, _⟩ := om.look
  exact ⟨od, J⟩
/-- what the class at C tells of its special method m -/
structure Spec1 (K : PySem.W.Frag) (C : Addr) (m : Str) (f : Addr) : Prop where
  at_ : PySem.W.findIn K (.ref C) m = some (some (.ref f))
  fn : PySem.W.isFn K (.ref f) = true
def rEqOwn (C : Addr) (sp : Sp) : R2 := fun x y H Q => ∃ a dx fs b dy gs, x = .ref a ∧ y = .ref b ∧ H a = some (.ins C dx fs) ∧ H b = some (.ins C dy gs) ∧ sp [x, y] H Q E0
theorem op_eqOwn {g : Addr} {n : Nat} {fd : FuncData} {ps : List Str} {sp : Sp} (m : Spec1 X.K C "__eq__" g) (hn : PySem.W.notFirst X.K C (.ref C) = true) (F : FnOk X.prog X.w X.K X.mg X.base CX0 n g fd ps sp) (b : Binds X.K fd ps []) (hr : Room n X.A) :
    OpR X (compareOp .Eq) (rEqOwn C sp) := by
  intro pins s σ H x y v u Q I rx ry h
  obtain ⟨a, dx, fs, b', dy, gs, rfl, rfl, ha, hb, q⟩ := h
  cases (show v = Value.ref a from rx)
  cases (show u = Value.ref b' from ry)
  obtain ⟨od, J⟩ := inst_of I ha
  obtain ⟨od', J'⟩ := inst_of I hb
  obtain ⟨m', hF⟩ := I.fr
  have hop : compareOp .Eq (.ref a) (.ref b') = richCompare .Eq (.ref a) (.ref b') := rfl
  rw [hop]
  refine PySem.W.cmp_K (op := .Eq) (tb := .ref C) hr.units0 hF I.ok.mod.kin J J'.type hn m.at_ m.fn ?_
  refine wpAny_mono (run_fn (us := [.ref a, .ref b']) (vs := [.ref a, .ref b']) F hr b .nil pass0 I (.cons rfl (.cons rfl .nil)) (by rw [List.append_nil]; exact q)) (fun w s' z => ?_) fun _ _ x => x
  obtain ⟨z', H', I', rz, qz⟩ := z
  exact SlX.cmpback rz ⟨z', H', I', rz, qz⟩
def rLenOwn (C : Addr) (sp : Sp) : List V → Hp → VK → Prop := fun xs H Q => ∃ a dx fs, xs = [.ref a] ∧ H a = some (.ins C dx fs) ∧ sp [.ref a] H (fun z H' => ∃ n : Nat, z = .int ((n : Nat) : Int) ∧ n ≤ 1000 ∧ Q z H') E0
theorem call_lenOwn {g : Addr} {n : Nat} {fd : FuncData} {ps : List Str} {sp : Sp} (m : Spec1 X.K C "__len__" g) (F : FnOk X.prog X.w X.K X.mg X.base CX0 n g fd ps sp) (b : Binds X.K fd ps []) (hr : Room (n + 1) X.A) :
    CallR X (.builtin "len") (rLenOwn C sp) := by
  intro pins s σ H xs us Q I r h
  obtain ⟨a, dx, fs, rfl, ha, q⟩ := h
  obtain ⟨u, rfl, ru⟩ := r.one
  cases (show u = Value.ref a from ru)
  obtain ⟨od, J⟩ := inst_of I ha
  obtain ⟨m', hF⟩ := I.fr
  have hr1 : Room n X.A.in1 := Room.in1 hr
  refine PySem.W.len_K hF I.ok.mod.kin J m.at_ m.fn ?_
  refine wpAny_mono (wpAny_call (SlX.run_at (us := [.ref a]) (ws := [.ref a]) (F.raw b .nil) hr1 I.env0.in1 pass0 I (.cons rfl .nil) (by rw [List.append_nil]; exact q))) (fun w s' z => ?_) fun _ _ x => x
  obtain ⟨z', H', I', rz, k, ek, hk, qz⟩ := z
  subst ek
  obtain ⟨t, rfl⟩ := (show ∃ t, w = Value.int ((k : Nat) : Int) t from rz)
  exact ⟨⟨Int.natCast_nonneg k, by omega⟩, .int ((k : Nat) : Int), H', I'.tok _, ⟨_, rfl⟩, qz⟩
end
end Sc

namespace Sc
open PySem PySem.Spec PyProof.Rows L2
structure SizesAt (K : PySem.W.Frag) (d : Addr) : Prop where
  ex : ∃ (a1 a2 a3 a4 b1 b2 b3 b4 : Tok) (n : Nat), K.lookup d = some ⟨.type "dict", none, .dict #[⟨2, .int 2 a1, .int 1 b1⟩, ⟨4, .int 4 a2, .int 2 b2⟩, ⟨8, .int 8 a3, .int 3 b3⟩, ⟨16, .int 16 a4, .int 4 b4⟩] n, #[]⟩
  ne : (d == sysModules) = false
def sizeMap (b1 b2 b3 b4 : Tok) (k : Int) : Option Value := if k = 2 then some (.int 1 b1) else if k = 4 then some (.int 2 b2) else if k = 8 then some (.int 3 b3) else if k = 16 then some (.int 4 b4) else none
section
variable {X : Cx} {pins : List (Addr × Obj)} {σ : L2.St} {H : Hp} {s : Shared} {d : Addr}
theorem sizes_map (I : Inv X pins σ H s) (S : SizesAt X.K d) : ∃ b1 b2 b3 b4, s.heap.MapOf (intKind X.prog X.w) d (sizeMap b1 b2 b3 b4) := by
  obtain ⟨a1, a2, a3, a4, b1, b2, b3, b4, n, l⟩ := S.ex
  refine ⟨b1, b2, b3, b4, _, _, _, I.kIn _ _ l, ⟨rfl, rfl, rfl⟩, rfl, fun e he => ?_, fun k => ?_⟩
  · have he' : e ∈ [(⟨2, .int 2 a1, .int 1 b1⟩ : DictEntry), ⟨4, .int 4 a2, .int 2 b2⟩, ⟨8, .int 8 a3, .int 3 b3⟩, ⟨16, .int 16 a4, .int 4 b4⟩] := by simpa using he
    simp only [List.mem_cons, List.not_mem_nil, or_false] at he'
    rcases he' with rfl | rfl | rfl | rfl
    · exact ⟨2, beq_self_eq_true _, (by decide +kernel : (2 : Int) = hashInt 2)⟩
    · exact ⟨4, beq_self_eq_true _, (by decide +kernel : (4 : Int) = hashInt 4)⟩
    · exact ⟨8, beq_self_eq_true _, (by decide +kernel : (8 : Int) = hashInt 8)⟩
    · exact ⟨16, beq_self_eq_true _, (by decide +kernel : (16 : Int) = hashInt 16)⟩
  · unfold findBy sizeMap
    have q : ∀ (i : Int) (t : Tok), (intKind X.prog X.w).is k (.int i t) = (i == k) := fun i t => rfl
    by_cases h2 : k = 2
    · subst h2
      rfl
    by_cases h4 : k = 4
    · subst h4
      rfl
    by_cases h8 : k = 8
    · subst h8
      rfl
    by_cases h16 : k = 16
    · subst h16
      rfl
    · rw [if_neg h2, if_neg h4, if_neg h8, if_neg h16]
      simp [q, Ne.symm h2, Ne.symm h4, Ne.symm h8, Ne.symm h16]
/-- n not in SIZES -/
def rSzNot (K : PySem.W.Frag) (d : Addr) : R2 := fun x y H Q => ∃ n : Nat, x = .int ((n : Nat) : Int) ∧ y = .ref d ∧ (n = 2 ∨ n = 4 ∨ n = 8 ∨ n = 16) ∧ Q (.bl false) H
theorem op_szNot (S : SizesAt X.K d) : OpR X (compareOp .NotIn) (rSzNot X.K d) := by
  intro pins s σ H x y v u Q I rx ry h
  obtain ⟨n, rfl, rfl, hn, q⟩ := h
  obtain ⟨t, rfl⟩ := rx
  cases (show u = Value.ref d from ry)
  obtain ⟨b1, b2, b3, b4, m⟩ := sizes_map I S
  refine wpAny_notIn_of (knd := intKind X.prog X.w) (k := ((n : Nat) : Int)) (beq_self_eq_true _) S.ne m ?_
  have e : (!(sizeMap b1 b2 b3 b4 ((n : Nat) : Int)).isSome) = false := by
    rcases hn with rfl | rfl | rfl | rfl <;> rfl
  rw [e]
  exact ⟨.bl false, H, I.tok _, rfl, q⟩
/-- SIZES[n] -/
def rSzGet (K : PySem.W.Frag) (d : Addr) : R2 := fun x y H Q => ∃ n k : Nat, x = .ref d ∧ y = .int ((n : Nat) : Int) ∧ n = 2 ^ k ∧ 1 ≤ k ∧ k ≤ 4 ∧ Q (.int ((k : Nat) : Int)) H
theorem ix_sz (S : SizesAt X.K d) : IxR X (rSzGet X.K d) := by
  intro value slice pins s σ H x y v u Q I rx ry h hs
  obtain ⟨n, k, rfl, rfl, hn, h1, h4, q⟩ := h
  cases (show v = Value.ref d from rx)
  obtain ⟨t, rfl⟩ := ry
  obtain ⟨b1, b2, b3, b4, m⟩ := sizes_map I S
  have hk : k = 1 ∨ k = 2 ∨ k = 3 ∨ k = 4 := by omega
  have e : ∃ b, sizeMap b1 b2 b3 b4 ((n : Nat) : Int) = some (.int ((k : Nat) : Int) b) := by
    subst hn
    rcases hk with rfl | rfl | rfl | rfl
    · exact ⟨b1, rfl⟩
    · exact ⟨b2, rfl⟩
    · exact ⟨b3, rfl⟩
    · exact ⟨b4, rfl⟩
  obtain ⟨b, e⟩ := e
  exact tail_any m.typeIs slot_dict_getitem.lookup (wpAny_getItem_of (knd := intKind X.prog X.w) (k := ((n : Nat) : Int)) (beq_self_eq_true _) m e ⟨.int ((k : Nat) : Int), H, I.tok _, ⟨b, rfl⟩, q⟩) hs
end
section
open PySem.NumText PySem.Calls
theorem read_bin {n : Nat} {p : L} (h : Pt n p) (h1 : 1 ≤ n) (h4 : n ≤ 4) : (int_private% "readNumeral") 0 2 p = (int_private% "Numeral.value") ((num p : Nat) : Int) := by
  obtain ⟨hl, hb⟩ := h
  match p, hl, hb with
  | [], hl, _ => exact absurd hl (by simp; omega)
  | [a], _, hb =>
    rcases hb a (by simp) with rfl | rfl <;> rfl
  | [a, b], _, hb =>
    rcases hb a (by simp) with rfl | rfl <;> rcases hb b (by simp) with rfl | rfl <;> rfl
  | [a, b, c], _, hb =>
    rcases hb a (by simp) with rfl | rfl <;> rcases hb b (by simp) with rfl | rfl <;> rcases hb c (by simp) with rfl | rfl <;> rfl
  | [a, b, c, d], _, hb =>
    rcases hb a (by simp) with rfl | rfl <;> rcases hb b (by simp) with rfl | rfl <;> rcases hb c (by simp) with rfl | rfl <;> rcases hb d (by simp) with rfl | rfl <;> rfl
  | a :: b :: c :: d :: e :: r, hl, _ => exact absurd hl (by simp; omega)
theorem seen_bin {n : Nat} {p : L} (h : Pt n p) : numTextOf (SX.S p) = p ∧ numSeenOf (SX.S p) = p := by
  have e1 : numTextOf (SX.S p) = p := by
    refine if_pos ?_
    rw [← Array.all_toList, List.all_eq_true]
    intro c hc
    rcases h.sg c hc with rfl | rfl <;> decide
  refine ⟨e1, ?_⟩
  show (numTextOf (SX.S p)).takeWhile (· != 0) = p
  rw [e1]
  refine PySem.NumText.takeWhile_all fun c hc => ?_
  rcases h.sg c hc with rfl | rfl <;> decide
set_option maxHeartbeats 4000000 in
theorem gives_bin {n : Nat} {p : L} {u t : Tok} (h : Pt n p) (h1 : 1 ≤ n) (h4 : n ≤ 4) : Gives (Builtin.«int.__new__» ⟨[.type "int", .str (SX.S p) u, .int 2 t], []⟩) (.int ((num p : Nat) : Int)) :=
  .of_wp fun M A E s Q hQ => by
    obtain ⟨hp, g, d, tk, os⟩ := s
    have f1 := F.conv_sub_int
    have f2 := F.madeHere_int
    have f6 : typeOf (.str (SX.S p) u) = pure (.type "str") := rfl
    obtain ⟨e1, e2⟩ := seen_bin h
    have hs : (numSeenOf (SX.S p)).length ≤ 640 := by
      rw [e2, h.len]
      omega
    have hr : (int_private% "readNumeral") 0 2 (numSeenOf (SX.S p)) = (int_private% "Numeral.value") ((num p : Nat) : Int) := by
      rw [e2]
      exact read_bin h h1 h4
    have ha : ((numSeenOf (SX.S p)).length == (numTextOf (SX.S p)).length) = true := by
      rw [e1, e2]
      exact beq_self_eq_true _
    have hk := Hx.Hid.mk (And.intro hs (And.intro hr ha))
    clear hs hr ha e1 e2 h h1 h4
    repeat (any_goals (first
      | assumption
      | ((with_reducible show wpAny _ _ ((int_private% "intFromText") _ _ _) _ _ _); refine Hx.wp_textB hk.out.1 hk.out.2.1 hk.out.2.2 ?_)
      | wp_step))
    all_goals first | exact ⟨_, rfl, hQ⟩ | skip
end
def rIntBin : List V → Hp → VK → Prop := fun xs H Q => ∃ (n : Nat) (p : L), xs = [.str (SX.S p), .int 2] ∧ Pt n p ∧ 1 ≤ n ∧ n ≤ 4 ∧ Q (.int ((num p : Nat) : Int)) H
theorem call_int_bin {X : Cx} : CallR X (.type "int") rIntBin := by
  intro pins s σ H xs us Q I r h
  obtain ⟨n, p, rfl, hp, h1, h4, q⟩ := h
  obtain ⟨u, w', rfl, r1, r2⟩ := vals2 r
  obtain ⟨t1, rfl⟩ := r1
  obtain ⟨t2, rfl⟩ := r2
  exact callType_new F.called_int F.newNe_int (Hx.typeCall_int_2 _ _) (Hx.newCall_int_2 _ _) (fun obj => F.initArgs_range_2 obj _ _) F.entry_int_new (gives_bin hp h1 h4).meets
    (show (Made.int ((num p : Nat) : Int)).post _ s from ⟨rfl, ⟨.int ((num p : Nat) : Int), H, I.tok _, ⟨_, rfl⟩, q⟩⟩)
section
variable {X : Cx}
theorem isi_str : CallR X (.builtin "isinstance") (fun xs H Q => ∃ z, xs = [.str z, .ty "str"] ∧ Q (.bl true) H) := fun pins s σ H xs us Q I r h => by
  obtain ⟨z, rfl, q⟩ := h
  exact call_isi pins s σ H _ us Q I r ⟨.str z, .ty "str", .type "str", .type "str", true, rfl, .ty "str", .base (.str z), kit_ty (by decide +kernel), q⟩
theorem isi_tup : CallR X (.builtin "isinstance") (fun xs H Q => ∃ a ys, xs = [.ref a, .ty "tuple"] ∧ H a = some (.tup ys) ∧ Q (.bl true) H) := fun pins s σ H xs us Q I r h => by
  obtain ⟨a, ys, rfl, ha, q⟩ := h
  exact call_isi pins s σ H _ us Q I r ⟨.ref a, .ty "tuple", .type "tuple", .type "tuple", true, rfl, .ty "tuple", .base (.tup ha), kit_ty (by decide +kernel), q⟩
theorem isi_list : CallR X (.builtin "isinstance") (fun xs H Q => ∃ a ys, xs = [.ref a, .ty "list"] ∧ H a = some (.lst ys) ∧ Q (.bl true) H) := fun pins s σ H xs us Q I r h => by
  obtain ⟨a, ys, rfl, ha, q⟩ := h
  exact call_isi pins s σ H _ us Q I r ⟨.ref a, .ty "list", .type "list", .type "list", true, rfl, .ty "list", .base (.lst ha), kit_ty (by decide +kernel), q⟩
/-- isinstance(x, (list, tuple)) of a list -/
theorem isi_seq : CallR X (.builtin "isinstance") (fun xs H Q => ∃ a ys tp, xs = [.ref a, .ref tp] ∧ H tp = some (.tup [.ty "list", .ty "tuple"]) ∧ H a = some (.lst ys) ∧ Q (.bl true) H) := fun pins s σ H xs us Q I r h => by
  obtain ⟨a, ys, tp, rfl, ht, ha, q⟩ := h
  refine call_isiT pins s σ H _ us Q I r ⟨.ref a, tp, _, .type "list", [.type "list", .type "tuple"], true, rfl, ht, .cons (.ty "list") (.cons (.ty "tuple") .nil), .base (.lst ha), ?_, q⟩
  exact kitAny_cons (b := true) (kit_ty (by decide +kernel)) (fun z => nomatch z) fun _ => rfl
end
end Sc

namespace Sc
open PySem L2
open Evl (Ex)
def top (i : Nat) : Stmt := PySem.Challenge.pw_steadycover_k62_whole_sheets_round_trip.main.body.getD i (.Pass ⟨0, 0, 0, 0⟩)
/-- the built-ins that the text names are still the built-ins -/
structure Blt (mg : Str → Option Value) : Prop where
  isi : mg "isinstance" = none
  str : mg "str" = none
  len : mg "len" = none
  tup : mg "tuple" = none
  lst : mg "list" = none
  int : mg "int" = none
  enu : mg "enumerate" = none
  rng : mg "range" = none
  any : mg "any" = none
  all : mg "all" = none
abbrev S := SX.S
theorem sz_S {p : L} (h : p.length ≤ 1000) : (S p).length ≤ sizeLine := by
  rw [SX.S_len]
  exact Nat.le_of_lt (small1000 h)
theorem iteD {c A B : Prop} [Decidable c] (hc : c) (h : A) : if decide c = true then A else B := by
  rw [decide_eq_true hc]
  exact iteT h
theorem iteDF {c A B : Prop} [Decidable c] (hc : ¬ c) (h : B) : if decide c = true then A else B := by
  rw [decide_eq_false hc]
  exact iteF h
theorem iteNF {c A B : Prop} [Decidable c] (hc : ¬ c) (h : A) : if (!decide c) = true then A else B := by
  rw [decide_eq_false hc]
  exact iteT h
theorem ofS (s : String) : Str.ofString s = S (q s) := TL.ext_tl (TL.tl_ofString s)
theorem yes_ {te : TE} {Kn : V → Hp → Prop} {Nn : Hp → Prop} {σ : L2.St} {H : Hp} (h : te σ H Kn) : tYes σ H fun b H3 => if b = true then te σ H3 Kn else Nn H3 := by
  show (if true = true then te σ H Kn else Nn H)
  exact iteT h
theorem fm_map {α β : Type} (f : α → β) (l : List α) : (l.filterMap fun a => some (f a)) = l.map f := by
  rw [← List.filterMap_eq_map]
  rfl
theorem lit (s : String) {l : L} (h : s.toList.map Char.toNat = l) : Str.ofString s = S l := by
  rw [ofS]
  exact congrArg S h
theorem sum_ones : ∀ l : L, (l.map (List.length ∘ fun k => [k])).sum = l.length
  | [] => rfl
  | a :: r => by
    have ih := sum_ones r
    rw [List.map_cons, List.sum_cons, List.length_cons, ih]
    show 1 + _ = _
    omega
theorem flat_ones : ∀ l : L, (l.map fun k => [k]).flatten = l
  | [] => rfl
  | a :: r => by
    have ih := flat_ones r
    rw [List.map_cons, List.flatten_cons, ih]
    rfl
theorem txt_at {p : L} {i : Nat} : (S p).cps[i]? = p[i]? := by simp
theorem txt_size {p : L} : (S p).cps.size = p.length := by simp
/-- a comprehension that changes nothing that stands: what it makes of each thing walked -/
theorem lc_ex {α : Type} {J : It} {G : Hp → Prop} {Y : Nat → Hp → V → Hp → Prop} {g : TG} {tt : TT} {te : TE} {vs : List Nat} {σ : L2.St} {H1 : Hp} {D : Addr} {Qd : Hp → Prop} (xs : List α) (w : Walk J xs.length G Y) (r : α → Option V) (hD : H1 D = none)
    (hn : xs.length ≤ 1000) (hG : ∀ H, Ex H1 H → G H)
    (hs : ∀ i a x H H' (Kn : V → Hp → Prop) (Nn : Hp → Prop), xs[i]? = some a → Ex H1 H → Y i H x H' → (∀ y H4, r a = some y → Ex H H4 → Kn y H4) → (∀ H4, r a = none → Ex H H4 → Nn H4) →
      g x (wipe σ vs) H' fun σ2 H2 => wipe σ2 vs = wipe σ vs ∧ tt σ2 H2 fun b H3 => if b = true then te σ2 H3 Kn else Nn H3)
    (hd : ∀ H, Ex H1 H → H D = some (.lst (xs.filterMap r)) → Qd H) :
    ∃ W : Nat → Nat → Hp → Prop, (∃ m, W 0 m (upd H1 D (.lst []))) ∧ ∀ i m H, W i m H →
      (J.stop i H ∧ Qd H) ∨ (J.go i H ∧ ∃ Nx : Hp → Prop, (∀ H', Nx H' → ∃ m', m' < m ∧ W (i + 1) m' H') ∧ ∀ x H', J.yld i H x H' → g x (wipe σ vs) H' fun σ2 H2 => wipe σ2 vs = wipe σ vs ∧ tt σ2 H2 fun b H3 =>
        if b = true then te σ2 H3 fun y H4 => ∃ acc, H4 D = some (.lst acc) ∧ acc.length < sizeLine ∧ Nx (upd H4 D (.lst (acc ++ [y]))) else Nx H3) := by
  refine lc_it w (fun i H => Ex H1 H ∧ H D = some (.lst ((xs.take i).filterMap r))) ⟨Ex.new hD, by rw [upd_same] <;> rfl⟩ (fun i H _ p => hG H p.1) (fun i x H H' hi p y => ?_) (fun H p => hd H p.1 (by rw [p.2, List.take_length]))
  obtain ⟨e, hl⟩ := p
  have ha : xs[i]? = some xs[i] := List.getElem?_eq_getElem hi
  have ht : xs.take (i + 1) = xs.take i ++ [xs[i]] := by rw [List.take_succ, ha] <;> rfl
  refine hs i xs[i] x H H' _ _ ha e y (fun z H4 hz e4 => ⟨_, e4 D _ hl, ?_, Ex.mut (e.trans e4) hD, ?_⟩) fun H4 hz e4 => ⟨e.trans e4, ?_⟩
  · have h1 := List.length_filterMap_le r (xs.take i)
    have h2 := List.length_take_le i xs
    exact small1000 (by omega)
  · rw [upd_same, ht, List.filterMap_append, List.filterMap_cons, hz] <;> rfl
  · rw [e4 D _ hl, ht, List.filterMap_append, List.filterMap_cons, hz]
    show _ = some (HO.lst (_ ++ []))
    rw [List.append_nil]
/-- for sign in a text -/
theorem s_forS {te : TE} {p : L} {j : Nat} {tu : TS} {D : Ends} {σ : L2.St} {H : Hp} (h : Evl.Ev te σ H (.str (S p))) (Pv : Nat → L2.St → Hp → Prop) (h0 : ∀ H1, Ex H H1 → Pv 0 σ H1)
    (hs : ∀ i c σ' H', p[i]? = some c → Pv i σ' H' → tu { D with nx := Pv (i + 1), ct := Pv (i + 1), bk := D.nx } (σ'.set j (some (.str (S [c])))) H') (hd : ∀ σ' H', Pv p.length σ' H' → D.nx σ' H') : tFor (iStr te) (gName j) tu D σ H :=
  h H (Ex.refl H) _ fun H1 e => ⟨S p, rfl, for_it walk_str Pv (h0 H1 e) (fun _ _ _ _ _ => trivial) (fun i x σ' H' H2 hi p' y => by
    obtain ⟨rfl, c, hc, rfl⟩ := y
    rw [txt_at] at hc
    exact hs i c σ' H2 hc p') (fun σ' H' p' => hd σ' H' (by rw [txt_size] at p'; exact p'))⟩
section
variable {P : Program} {w : World} {K : PySem.W.Frag} {mg : Str → Option Value} {base : Heap}
abbrev sSignsFit : Stmt := top 10
def spSignsFit : Sp := fun vs H Q _ => ∃ (n : Nat) (p ss : L), vs = [.str (S p), .int ((n : Nat) : Int), .str (S ss)] ∧ p.length = n ∧ n ≤ 16 ∧ (∀ c ∈ p, c ∈ ss) ∧ ∀ H', Ex H H' → Q (.bl true) H'
theorem ok_signs_fit {f : Addr} {fd : FuncData} (F : C8.Def K mg "signs_fit" sSignsFit f fd) (b : Binds K fd ["thing", "n", "signs"] []) (T : Blt mg) : C8.Cal P w K mg base 1 "signs_fit" spSignsFit [] := by
  have sc : FnScope ["thing", "n", "signs", "sign"] ["thing", "n", "signs"] (C8.fnScope sSignsFit) := C8.fnScope_by (by decide +kernel)
  refine C8.cal0 F b .nil sc (fun vs H Q E h => ?_) (fun cdv A outer s H vs Q E hr h => ?_)
  · obtain ⟨n, p, ss, rfl, _⟩ := h
    rfl
  · obtain ⟨n, p, ss, rfl, hl, h16, hs, k⟩ := h
    refine ⟨_, pss_cons (ps_if (PW.pt (pw_or (pt_not (pt_val (pe_callB isi_str (by rfl) T.isi (by decide +kernel) (pa_cons (pv 0) (pa_cons (pe_bltn (v := .ty "str") (by rfl) T.str (by decide +kernel) rfl) pa_nil)))))
        (pw_or1 (pt_cmpR op_ne (pe_callB call_len_str (by rfl) T.len PySem.boot_len (pa_cons (pv 0) pa_nil)) (pv 1) (nomark _)))))
      (pss_one (ps_ret pe_bl)) pss_nil)
      (pss_cons (ps_for PassesOwn.never rfl (pi_str (pv 0)) (pg_name (i := 3) sc.nd rfl (.inl rfl))
        (pss_one (ps_if (pt_cmpR op_notIn_sign (pv 3) (pv 2) rfl) (pss_one (ps_ret pe_bl)) pss_nil)))
      (pss_one (ps_ret pe_bl))), ?_⟩
    refine ⟨_, rfl, _, rfl, true, rfl, ?_⟩
    refine iteF ?_
    refine ⟨_, rfl, _, rfl, sz_S (by omega), _, rfl, rfl, _, rfl, ?_⟩
    refine iteNS (by rw [SX.S_len, hl]) ?_
    refine s_forS (p := p) (Evl.ev_var rfl) (fun i σ' H' => Ex H H' ∧ ∃ v, σ' = [some (.str (S p)), some (.int ((n : Nat) : Int)), some (.str (S ss)), v]) (fun H1 e => ⟨e, _, rfl⟩) ?_ ?_
    · rintro i c σ' H' hi ⟨e, v, rfl⟩
      refine ⟨_, rfl, _, rfl, c, S ss, rfl, rfl, _, rfl, ?_⟩
      refine iteNS (hs c (List.mem_of_getElem? hi)) ?_
      exact ⟨e, _, rfl⟩
    · rintro σ' H' ⟨e, v, rfl⟩
      exact k H' e
abbrev sIsPoint : Stmt := top 11
abbrev sIsCube : Stmt := top 12
def spIsPoint : Sp := fun vs H Q _ => ∃ (n : Nat) (p : L), vs = [.str (S p), .int ((n : Nat) : Int)] ∧ Pt n p ∧ n ≤ 4 ∧ ∀ H', Ex H H' → Q (.bl true) H'
def spIsCube : Sp := fun vs H Q _ => ∃ (n : Nat) (p : L), vs = [.str (S p), .int ((n : Nat) : Int)] ∧ Cb n p ∧ n ≤ 4 ∧ ∀ H', Ex H H' → Q (.bl true) H'
theorem ok_is_point {f : Addr} {fd : FuncData} (F : C8.Def K mg "is_point" sIsPoint f fd) (b : Binds K fd ["thing", "n"] []) (c1 : C8.Cal P w K mg base 1 "signs_fit" spSignsFit []) : C8.Cal P w K mg base 2 "is_point" spIsPoint [] := by
  have sc : FnScope ["thing", "n"] ["thing", "n"] (C8.fnScope sIsPoint) := C8.fnScope_by (by decide +kernel)
  refine C8.cal0 F b .nil sc (fun vs H Q E h => ?_) (fun cdv A outer s H vs Q E hr h => ?_)
  · obtain ⟨n, p, rfl, _⟩ := h
    rfl
  · obtain ⟨n, p, rfl, hp, h4, k⟩ := h
    refine ⟨_, pss_one (ps_ret (C8.pe_c c1 hr (by decide) (by rfl) (pa_cons (pv 0) (pa_cons (pv 1) (pa_cons pe_str pa_nil))))), ?_⟩
    refine ⟨_, rfl, _, rfl, n, p, bits, rfl, hp.len, by omega, fun c hc => ?_, k⟩
    rcases hp.sg c hc with rfl | rfl <;> decide
theorem ok_is_cube {f : Addr} {fd : FuncData} (F : C8.Def K mg "is_cube" sIsCube f fd) (b : Binds K fd ["thing", "n"] []) (c1 : C8.Cal P w K mg base 1 "signs_fit" spSignsFit []) : C8.Cal P w K mg base 2 "is_cube" spIsCube [] := by
  have sc : FnScope ["thing", "n"] ["thing", "n"] (C8.fnScope sIsCube) := C8.fnScope_by (by decide +kernel)
  refine C8.cal0 F b .nil sc (fun vs H Q E h => ?_) (fun cdv A outer s H vs Q E hr h => ?_)
  · obtain ⟨n, p, rfl, _⟩ := h
    rfl
  · obtain ⟨n, p, rfl, hp, h4, k⟩ := h
    refine ⟨_, pss_one (ps_ret (C8.pe_c c1 hr (by decide) (by rfl) (pa_cons (pv 0) (pa_cons (pv 1) (pa_cons pe_str pa_nil))))), ?_⟩
    refine ⟨_, rfl, _, rfl, n, p, [48, 49, 45], rfl, hp.len, by omega, fun c hc => ?_, k⟩
    rcases hp.sg c hc with rfl | rfl | rfl <;> decide
abbrev sSomeSize : Stmt := top 13
def spSomeSize : Sp := fun vs H Q _ => ∃ (n : Nat) (p : L), vs = [.str (S p)] ∧ Pt n p ∧ n ≤ 4 ∧ ∀ H', Ex H H' → Q (.int ((n : Nat) : Int)) H'
theorem ok_some_size {f : Addr} {fd : FuncData} (F : C8.Def K mg "some_size" sSomeSize f fd) (b : Binds K fd ["thing"] []) (T : Blt mg) (mi : ∃ t, mg "MOST_INPUTS" = some (.int 4 t)) : C8.Cal P w K mg base 1 "some_size" spSomeSize [] := by
  have sc : FnScope ["thing"] ["thing"] (C8.fnScope sSomeSize) := C8.fnScope_by (by decide +kernel)
  obtain ⟨tm, mi⟩ := mi
  refine C8.cal0 F b .nil sc (fun vs H Q E h => ?_) (fun cdv A outer s H vs Q E hr h => ?_)
  · obtain ⟨n, p, rfl, _⟩ := h
    rfl
  · obtain ⟨n, p, rfl, hp, h4, k⟩ := h
    refine ⟨_, pss_cons (ps_if (PW.pt (pw_and (pt_val (pe_callB isi_str (by rfl) T.isi (by decide +kernel) (pa_cons (pv 0) (pa_cons (pe_bltn (v := .ty "str") (by rfl) T.str (by decide +kernel) rfl) pa_nil))))
        (pw_and1 (pt_cmpR op_le (pe_callB call_len_str (by rfl) T.len PySem.boot_len (pa_cons (pv 0) pa_nil)) (pe_glob (v := .int 4) (by rfl) mi ⟨_, rfl⟩) (nomark _)))))
      (pss_one (ps_ret (pe_callB call_len_str (by rfl) T.len PySem.boot_len (pa_cons (pv 0) pa_nil)))) pss_nil) (pss_one (ps_ret pe_int)), ?_⟩
    refine ⟨_, rfl, _, rfl, true, rfl, ?_⟩
    refine iteT ?_
    have hl : (S p).length = n := by rw [SX.S_len, hp.len]
    refine ⟨_, rfl, _, rfl, sz_S (by rw [hp.len]; omega), _, _, rfl, rfl, _, rfl, ?_⟩
    refine iteD (by rw [hl]; omega) ?_
    refine ⟨_, rfl, _, rfl, sz_S (by rw [hp.len]; omega), ?_⟩
    rw [hl]
    exact k H (Ex.refl H)
abbrev sJoined : Stmt := top 15
def spJoined : Sp := fun vs H Q _ => ∃ (n : Nat) (c d : L), vs = [.str (S c), .str (S d)] ∧ c.length = n ∧ d.length = n ∧ n ≤ 4 ∧ ∀ H', Ex H H' → Q (.str (S (span c d))) H'
theorem ok_joined {f : Addr} {fd : FuncData} (F : C8.Def K mg "joined" sJoined f fd) (b : Binds K fd ["c", "d"] []) (T : Blt mg) : C8.Cal P w K mg base 1 "joined" spJoined [] := by
  have sc : FnScope ["c", "d", "at", "sign"] ["c", "d"] (C8.fnScope sJoined) := C8.fnScope_by (by decide +kernel)
  refine C8.cal0 F b .nil sc (fun vs H Q E h => ?_) (fun cdv A outer s H vs Q E hr h => ?_)
  · obtain ⟨n, c, d, rfl, _⟩ := h
    rfl
  · obtain ⟨n, c, d, rfl, hc, hd, h4, k⟩ := h
    refine ⟨_, pss_one (ps_ret (pe_join pe_str (pe_lc (own := [("at", 2), ("sign", 3)]) (g := gTup K 2 (gCons (gName 2) (gCons (gName 3) gNil))) (tt := tYes) rfl sc.nd (pi_enumS (by rfl) T.enu (pa_cons (pv 0) pa_nil)) (blkOk_by (N := ["c", "d", "at", "sign"]) (sc := C8.fnScope sJoined) (by decide +kernel))
      (fun _ _ _ _ _ => pg_tup rfl (pgs_cons (pg_name (i := 2) sc.nd rfl (.inl rfl)) (pgs_cons (pg_name (i := 3) sc.nd rfl (.inl rfl)) pgs_nil)))
      (fun _ _ _ _ _ => pts_nil)
      (fun _ _ _ _ _ => pe_ifExp (pt_cmpR op_eq (pv 3) (pe_ix ix_str (pv 1) (pv 2) (fun _ _ => rfl)) (nomark _)) (pv 3) pe_str)))), ?_⟩
    refine ⟨⟨_, rfl⟩, _, rfl, _, rfl, fun D hD => ?_⟩
    have hz : (c.zip d).length = (S c).cps.size := by rw [txt_size, List.length_zip]; omega
    have wk : Walk (ItS (S c)) (c.zip d).length (fun _ => True) (YEn 0 fun i => (S c).cps[i]?.map fun k => .str ⟨#[k]⟩) := by
      rw [hz]
      exact walk_enS
    refine lc_ex (c.zip d) wk (fun a => some (.str (S [if a.1 = a.2 then a.1 else 45]))) hD (by rw [List.length_zip]; omega) (fun _ _ => trivial) (fun i a x H2 H3 Kn Nn ha e y hk _ => ?_) (fun H2 e2 hl => ?_)
    · obtain ⟨T, v, rfl, hT, rfl, hv⟩ := y
      have hci : c[i]? = some a.1 := (List.getElem?_zip_eq_some.mp ha).1
      have hdi : d[i]? = some a.2 := (List.getElem?_zip_eq_some.mp ha).2
      replace hv : ((S c).cps[i]?).map (fun k => V.str ⟨#[k]⟩) = some v := hv
      rw [txt_at, hci] at hv
      obtain rfl : V.str (S [a.1]) = v := Option.some.inj hv
      refine ⟨T, _, rfl, .inl (.inl upd_same), rfl, _, _, rfl, _, _, rfl, rfl, rfl, yes_ ?_⟩
      refine ⟨_, rfl, _, rfl, _, rfl, S d, (i : Nat), a.2, rfl, ?_, sz_S (by omega), ?_, rfl, _, rfl, ?_⟩
      · show V.int (0 + (i : Nat)) = V.int (i : Nat)
        rw [Int.zero_add]
      · exact atI_nat (by simpa using hdi)
      · have eq : decide (V.str (S [a.1]) = V.str ⟨#[a.2]⟩) = decide (a.1 = a.2) := by
          by_cases h : a.1 = a.2
          · rw [h, decide_eq_true rfl, decide_eq_true rfl]
          · rw [decide_eq_false h, decide_eq_false]
            intro z
            have z' := V.str.inj z
            exact h (List.cons.inj (SX.S_inj z')).1
        rw [eq]
        have kk := fun H4 e4 => hk _ H4 rfl e4
        by_cases h : a.1 = a.2
        · refine iteD h ⟨_, rfl, ?_⟩
          have := kk _ (Ex.new (o := .tup [.int (0 + (i : Nat)), .str (S [a.1])]) hT)
          rw [if_pos h] at this
          exact this
        · refine iteDF h ?_
          have := kk _ (Ex.new (o := .tup [.int (0 + (i : Nat)), .str (S [a.1])]) hT)
          rw [if_neg h] at this
          rw [lit "-" (l := [45]) (by decide)]
          exact this
    · have ej : ((c.zip d).filterMap fun a => some (V.str (S [if a.1 = a.2 then a.1 else 45]))) = (((span c d).map fun k => [k]).map S).map V.str := by
        unfold span
        rw [fm_map, ← List.map_uncurry_zip_eq_zipWith, List.map_map, List.map_map, List.map_map]
        rfl
      rw [ej] at hl
      refine ⟨S [], D, ((span c d).map fun k => [k]).map S, rfl, rfl, .inl (.inl (.inl hl)), ?_, ?_⟩
      · have h1 : (span c d).length ≤ 4 := by rw [span_len hc hd]; exact h4
        have h2 : ((((span c d).map fun k => [k]).map S).map (·.length)).sum = (span c d).length := by
          rw [SX.lens, List.map_map]
          exact sum_ones _
        rw [h2, SX.S_len]
        show _ + _ * 0 ≤ _
        omega
      · rw [SX.join_S, join_nil, flat_ones]
        exact k H2 e2
end
end Sc

namespace Sc
open PySem L2
open Evl (Ex Ev)
def txs (rows : List L) : List V := rows.map fun r => V.str (S r)
theorem yesG {A B : Hp → Prop} {σ : L2.St} {H : Hp} (h : A H) : tYes σ H fun b H3 => if b = true then A H3 else B H3 := by
  show (if true = true then A H else B H)
  exact iteT h
theorem flat_len (f : L → Nat → L) (z : L) : ∀ (rows : List L) (i : Nat), ((rows.take i).flatMap fun r => z.map (f r)).length ≤ i * z.length
  | [], i => by
    rw [List.take_nil]
    exact Nat.zero_le _
  | r :: rs, 0 => Nat.zero_le _
  | r :: rs, i + 1 => by
    have ih := flat_len f z rs i
    rw [List.take_succ_cons, List.flatMap_cons, List.length_append, List.length_map, Nat.succ_mul]
    omega
/-- the reading of [te for x in rows for c in z], rows a list of texts, z a text -/
theorem lc2_ex {K : PySem.W.Frag} {a0 D : Addr} {rows : List L} {z : L} {j1 j2 : Nat} {t1 te : TE} {vs vs1 : List Nat} {σ : L2.St} {H1 : Hp} {Qd : Hp → Prop} (f : L → Nat → L) (hl : SqL K H1 a0 (txs rows)) (hD : H1 D = none) (hn : rows.length * z.length ≤ 1000)
    (hw : ∀ x, wipe ((wipe σ vs).set j1 (some x)) vs = wipe σ vs) (hw1 : ∀ x y, wipe ((wipe ((wipe σ vs).set j1 (some x)) vs1).set j2 (some y)) vs1 = wipe ((wipe σ vs).set j1 (some x)) vs1)
    (h1 : ∀ r ∈ rows, Ev t1 ((wipe σ vs).set j1 (some (.str (S r)))) H1 (.str (S z)))
    (he : ∀ r ∈ rows, ∀ c ∈ z, Ev te ((wipe ((wipe σ vs).set j1 (some (.str (S r)))) vs1).set j2 (some (.str (S [c])))) H1 (.str (S (f r c))))
    (hd : ∀ H, Ex H1 H → H D = some (.lst (txs (rows.flatMap fun r => z.map (f r)))) → Qd H) :
    ∃ W : Nat → Nat → Hp → Prop, (∃ m, W 0 m (upd H1 D (.lst []))) ∧ ∀ i m H, W i m H →
      ((Itl K a0).stop i H ∧ Qd H) ∨ ((Itl K a0).go i H ∧ ∃ Nx : Hp → Prop, (∀ H', Nx H' → ∃ m', m' < m ∧ W (i + 1) m' H') ∧ ∀ x H', (Itl K a0).yld i H x H' → gName j1 x (wipe σ vs) H' fun σ2 H2 => wipe σ2 vs = wipe σ vs ∧ tYes σ2 H2 fun b H3 =>
        if b = true then iStr t1 σ2 H3 fun J1 H4 => ∃ W1 : Nat → Nat → Hp → Prop, (∃ m, W1 0 m H4) ∧ ∀ j k H, W1 j k H →
          (J1.stop j H ∧ Nx H) ∨ (J1.go j H ∧ ∃ Nx1 : Hp → Prop, (∀ H', Nx1 H' → ∃ k', k' < k ∧ W1 (j + 1) k' H') ∧ ∀ x H', J1.yld j H x H' → gName j2 x (wipe σ2 vs1) H' fun σ3 H5 => wipe σ3 vs1 = wipe σ2 vs1 ∧ tYes σ3 H5 fun b H6 =>
            if b = true then te σ3 H6 fun y H7 => ∃ acc, H7 D = some (.lst acc) ∧ acc.length < sizeLine ∧ Nx1 (upd H7 D (.lst (acc ++ [y]))) else Nx1 H6)
        else Nx H3) := by
  have wo := walk_list (K := K) (a := a0) (xs := txs rows)
  have hlen : (txs rows).length = rows.length := List.length_map ..
  refine ⟨fun i m H => m = rows.length - i ∧ i ≤ rows.length ∧ Ex H1 H ∧ H D = some (.lst (txs ((rows.take i).flatMap fun r => z.map (f r)))), ⟨_, rfl, Nat.zero_le _, Ex.new hD, upd_same⟩, ?_⟩
  rintro i m H ⟨rfl, hi, e, hH⟩
  have q := Evl.ex_l e hl
  by_cases hlt : i < rows.length
  · refine .inr ⟨wo.goes i H (by rw [hlen]; exact hlt) q, fun H' => Ex H1 H' ∧ H' D = some (.lst (txs ((rows.take (i + 1)).flatMap fun r => z.map (f r)))), fun H' p => ⟨_, by omega, rfl, hlt, p.1, p.2⟩, fun x H' y => ?_⟩
    obtain ⟨rfl, hx⟩ := wo.yields i H x H' (by rw [hlen]; exact hlt) q y
    have hr : rows[i]? = some rows[i] := List.getElem?_eq_getElem hlt
    have hm : rows[i] ∈ rows := List.getElem_mem hlt
    obtain rfl : V.str (S rows[i]) = x := by
      unfold txs at hx
      rw [List.getElem?_map, hr] at hx
      exact Option.some.inj hx
    have ht : rows.take (i + 1) = rows.take i ++ [rows[i]] := by rw [List.take_succ, hr] <;> rfl
    have hflat : ∀ j, txs ((rows.take i).flatMap fun r => z.map (f r)) ++ txs ((z.take j).map (f rows[i])) = txs ((rows.take i).flatMap (fun r => z.map (f r)) ++ (z.take j).map (f rows[i])) := fun j => by
      unfold txs
      rw [List.map_append]
    refine ⟨hw _, ?_⟩
    refine yesG ?_
    refine h1 _ hm H' e _ fun H4 e4 => ⟨S z, rfl, ?_⟩
    have wi := walk_str (z := S z)
    refine ⟨fun j k H => k = z.length - j ∧ j ≤ z.length ∧ Ex H1 H ∧ H D = some (.lst (txs ((rows.take i).flatMap fun r => z.map (f r)) ++ txs ((z.take j).map (f rows[i])))), ⟨_, rfl, Nat.zero_le _, e.trans e4, ?_⟩, ?_⟩
    · rw [e4 D _ hH]
      show some (HO.lst _) = some (HO.lst (_ ++ []))
      rw [List.append_nil]
    rintro j k H5 ⟨rfl, hj, e5, hH5⟩
    by_cases hjl : j < z.length
    · refine .inr ⟨wi.goes j H5 (by rw [txt_size]; exact hjl) trivial, fun H' => Ex H1 H' ∧ H' D = some (.lst (txs ((rows.take i).flatMap fun r => z.map (f r)) ++ txs ((z.take (j + 1)).map (f rows[i])))), fun H' p => ⟨_, by omega, rfl, hjl, p.1, p.2⟩, fun x H6 y6 => ?_⟩
      obtain ⟨rfl, c, hc, rfl⟩ := wi.yields j H5 x H6 (by rw [txt_size]; exact hjl) trivial y6
      rw [txt_at] at hc
      have hcm : c ∈ z := List.mem_of_getElem? hc
      refine ⟨hw1 _ _, ?_⟩
      refine yesG ?_
      refine he _ hm c hcm H6 e5 _ fun H7 e7 => ⟨_, e7 D _ hH5, ?_, Ex.mut (e5.trans e7) hD, ?_⟩
      · have a1 : ((rows.take i).flatMap fun r => z.map (f r)).length ≤ i * z.length := flat_len _ _ _ _
        have a2 : (i + 1) * z.length ≤ rows.length * z.length := Nat.mul_le_mul_right _ hlt
        rw [Nat.succ_mul] at a2
        unfold txs
        rw [List.length_append, List.length_map, List.length_map, List.length_map, List.length_take]
        exact small1000 (by omega)
      · rw [upd_same]
        have hz : z.take (j + 1) = z.take j ++ [c] := by rw [List.take_succ, hc] <;> rfl
        rw [hz, List.append_assoc]
        unfold txs
        rw [List.map_append, List.map_append] <;> rfl
    · have ej : j = z.length := by omega
      subst ej
      refine .inl ⟨?_, e5, ?_⟩
      · have := wi.stops H5 trivial
        rw [txt_size] at this
        exact this
      · rw [hH5, ht, List.flatMap_append, List.take_length]
        unfold txs
        rw [List.map_append, List.flatMap_cons, List.flatMap_nil, List.append_nil]
  · have ei : i = rows.length := by omega
    subst ei
    refine .inl ⟨?_, hd H e (by rw [hH, List.take_length])⟩
    have := wo.stops H q
    rw [hlen] at this
    exact this
section
variable {P : Program} {w : World} {K : PySem.W.Frag} {mg : Str → Option Value} {base : Heap}
abbrev sFilled : Stmt := top 16
/-- a new list of the points of the cube -/
def spFilled : Sp := fun vs H Q _ => ∃ (n : Nat) (c : L), vs = [.str (S c), .str (S bits)] ∧ Cb n c ∧ n ≤ 4 ∧ ∀ H' p, Ex H H' → H p = none → H' p = some (.lst (txs (pts c))) → Q (.ref p) H'
theorem ok_filled {f : Addr} {fd : FuncData} (F : C8.Def K mg "filled" sFilled f fd) (b : Binds K fd ["cube", "signs"] []) : C8.Cal P w K mg base 1 "filled" spFilled [] := by
  have sc : FnScope ["cube", "signs", "rows", "sign", "choices", "row", "choice"] ["cube", "signs"] (C8.fnScope sFilled) := C8.fnScope_by (by decide +kernel)
  refine C8.cal0 F b .nil sc (fun vs H Q E h => ?_) (fun cdv A outer s H vs Q E hr h => ?_)
  · obtain ⟨n, c, rfl, _⟩ := h
    rfl
  · obtain ⟨n, c, rfl, hc, h4, k⟩ := h
    refine ⟨_, pss_cons (ps_set (i := 2) sc.nd rfl (.inl rfl) (pe_lst (pa_cons pe_str pa_nil)))
      (pss_cons (ps_for PassesOwn.never rfl (pi_str (pv 0)) (pg_name (i := 3) sc.nd rfl (.inl rfl))
        (pss_cons (ps_set (i := 4) sc.nd rfl (by first | exact .inl rfl | exact .inr rfl) (pe_ifExp (pt_cmpR op_eq (pv 3) pe_str (nomark _)) (pv 1) (pv 3)))
        (pss_one (ps_setLc2 (i := 2) (own := [("row", 5), ("choice", 6)]) (vs1 := [6]) (g := gName 5) (tt := tYes) (g1 := gName 6) (tt1 := tYes) (wi1 := iStr (tVar 4)) rfl sc.nd rfl rfl (sw_true rfl rfl rfl (by decide +kernel)) (pi_list (pv 2))
          (blkOk_by (N := ["cube", "signs", "rows", "sign", "choices", "row", "choice"]) (sc := C8.fnScope sFilled) (by decide +kernel)) (by decide)
          (fun _ _ _ _ _ => pg_name (i := 5) sc.nd rfl (.inl rfl)) (fun _ _ _ _ _ => pts_nil) (fun _ _ _ _ _ => pi_str (pv 4)) (fun _ _ _ _ _ => pg_name (i := 6) sc.nd rfl (.inl rfl)) (fun _ _ _ _ _ => pts_nil)
          (fun _ _ _ _ _ => pe_op op_add_str (pv 5) (pv 6))))))
      (pss_one (ps_ret (pv 2)))), ?_⟩
    refine ⟨by show 1 ≤ sizeLine; decide, fun p0 hp0 => ?_⟩
    refine s_forS (p := c) (Evl.ev_var rfl) (fun i σ' H' => Ex H H' ∧ ∃ a v3 v4, σ' = [some (.str (S c)), some (.str (S bits)), some (.ref a), v3, v4, none, none] ∧ H a = none ∧ H' a = some (.lst (txs ((c.take i).foldl (stepF bits) [[]])))) (fun H1 e => ⟨(Ex.new hp0).trans e, p0, none, none, rfl, hp0, ?_⟩) ?_ ?_
    · rw [e p0 _ upd_same]
      rfl
    · rintro i s σ' H' hi ⟨e, a, v3, v4, rfl, ha, hH⟩
      have hsg : Sgn s := hc.sg s (List.mem_of_getElem? hi)
      -- choices
      refine ⟨_, rfl, rfl, _, rfl, ?_⟩
      have ech : ∀ (A B : Prop), (if s = 45 then A else B) → (if decide (V.str (S [s]) = V.str (Str.ofString "-")) = true then A else B) := fun A B h => by
        rw [lit "-" (l := [45]) (by decide)]
        by_cases hs : s = 45
        · rw [if_pos hs] at h
          rw [hs, decide_eq_true rfl]
          exact iteT h
        · rw [if_neg hs] at h
          rw [decide_eq_false]
          · exact iteF h
          · intro z
            have z' := V.str.inj z
            exact hs (List.cons.inj (SX.S_inj z')).1
      refine ech _ _ ?_
      have go : tAsg (tLc2 (iList K (tVar 2)) (gName 5) tYes (iStr (tVar 4)) (gName 6) tYes
          (tOp (fun x y H Q => ∃ i j, x = V.str i ∧ y = V.str j ∧ i.length + j.length ≤ sizeLine ∧ Q (V.str (i ++ j)) H) (tVar 5) (tVar 6)) [5, 6] [6]) (gName 2)
          { nx := fun σ' H' => Ex H H' ∧ ∃ a v3 v4, σ' = [some (.str (S c)), some (.str (S bits)), some (.ref a), v3, v4, none, none] ∧ H a = none ∧ H' a = some (.lst (txs ((c.take (i + 1)).foldl (stepF bits) [[]]))), rt := Q, bk := fun _ _ => False, ct := fun _ _ => False }
          [some (.str (S c)), some (.str (S bits)), some (.ref a), some (.str (S [s])), some (.str (S (opts bits s))), none, none] H' := by
        refine ⟨_, rfl, a, rfl, ⟨_, Evl.sq_of hH⟩, fun D hD => ?_⟩
        have hrows : ((c.take i).foldl (stepF bits) [[]]).length ≤ 16 := pts_len (n := min i n) (by rw [List.length_take, hc.len]) (by omega)
        have hopt : (opts bits s).length ≤ 2 := by
          unfold opts
          split
          · exact Nat.le_refl _
          · exact Nat.le_succ _
        have hrl : ∀ r ∈ (c.take i).foldl (stepF bits) [[]], r.length ≤ 4 := fun r hr => by
          have := (pts_pt (n := min i n) ⟨by rw [List.length_take, hc.len], fun x hx => hc.sg x (List.mem_of_mem_take hx)⟩ hr).len
          omega
        refine lc2_ex (rows := (c.take i).foldl (stepF bits) [[]]) (z := opts bits s) (fun r k => r ++ [k]) (Evl.sq_of hH) hD ?_ (fun x => rfl) (fun x y => rfl) (fun r _ => Evl.ev_var rfl) (fun r hr k hk => ?_) (fun H2 e2 h2 => ?_)
        · exact Nat.le_trans (Nat.mul_le_mul hrows hopt) (by decide)
        · refine Evl.ev_op (Evl.ev_var rfl) (Evl.ev_var rfl) fun H1 e1 Q' q => ⟨S r, S [k], rfl, rfl, ?_, ?_⟩
          · have := hrl r hr
            rw [SX.S_len, SX.S_len]
            show r.length + 1 ≤ sizeLine
            exact Nat.le_of_lt (small1000 (by omega))
          · rw [SX.S_cat]
            exact q H1 (Ex.refl H1)
        · refine ⟨e.trans e2, D, some (.str (S [s])), some (.str (S (opts bits s))), rfl, Evl.fresh_back e hD, ?_⟩
          have ht : c.take (i + 1) = c.take i ++ [s] := by rw [List.take_succ, hi] <;> rfl
          rw [h2, ht, List.foldl_append]
          rfl
      by_cases hs : s = 45
      · rw [if_pos hs]
        refine ⟨_, rfl, ?_⟩
        have : opts bits s = bits := by unfold opts; rw [if_pos hs]
        rw [this] at go
        exact go
      · rw [if_neg hs]
        refine ⟨_, rfl, ?_⟩
        have : opts bits s = [s] := by unfold opts; rw [if_neg hs]
        rw [this] at go
        exact go
    · rintro σ' H' ⟨e, a, v3, v4, rfl, ha, hH⟩
      rw [List.take_length] at hH
      exact ⟨_, rfl, k H' a e ha hH⟩
end
end Sc

namespace Sc
open PySem L2
open Evl (Ex Ev)
/-- a change stands at a -/
def ChAt (H : Hp) (a : Addr) (ch : L × L) : Prop := H a = some (.tup [.str (S ch.1), .str (S ch.2)])
/-- what a Table holds -/
def tfs (t : L) (n : Nat) : List (Str × V) := putF "n" (.int ((n : Nat) : Int)) (putF "text" (.str (S t)) [])
theorem tfs_n (t : L) (n : Nat) : (tfs t n).lookup ("n" : Str) = some (.int ((n : Nat) : Int)) := by
  unfold tfs
  rw [lookup_putF, if_pos rfl]
theorem tfs_text (t : L) (n : Nat) : (tfs t n).lookup ("text" : Str) = some (.str (S t)) := by
  unfold tfs
  rw [lookup_putF, if_neg (by decide +kernel), lookup_putF, if_pos rfl]
theorem tfs_no (t : L) (n : Nat) {m : Str} (h1 : ¬ m = "n") (h2 : ¬ m = "text") : (tfs t n).lookup m = none := by
  unfold tfs
  rw [lookup_putF, if_neg h1, lookup_putF, if_neg h2] <;> rfl
def TabAt (CT : Addr) (H : Hp) (a : Addr) (t : L) (n : Nat) : Prop := ∃ dx, H a = some (.ins CT dx (tfs t n))
theorem TabAt.ex {CT : Addr} {H H' : Hp} {a : Addr} {t : L} {n : Nat} (h : TabAt CT H a t n) (e : Ex H H') : TabAt CT H' a t n := let ⟨dx, z⟩ := h; ⟨dx, e _ _ z⟩
/-- what the walk asks of the class Table -/
structure TabC (K : PySem.W.Frag) (CT : Addr) : Prop where
  cl : Cls K CT
  n : NoAttr K CT "n"
  text : NoAttr K CT "text"
theorem lenP {n : Nat} {p : L} (h : Pt n p) (h4 : n ≤ 4) : p.length ≤ 1000 := by rw [h.len]; omega
theorem vs_inj {a b : L} : (decide (V.str (S a) = V.str (S b))) = decide (a = b) := by
  by_cases h : a = b
  · rw [h, decide_eq_true rfl, decide_eq_true rfl]
  · rw [decide_eq_false h, decide_eq_false]
    exact fun z => h (SX.S_inj (V.str.inj z))
section
variable {P : Program} {w : World} {K : PySem.W.Frag} {mg : Str → Option Value} {base : Heap} {CT : Addr}
abbrev sIsChange : Stmt := top 18
def spIsChange : Sp := fun vs H Q _ => ∃ (n : Nat) (a : Addr) (ch : L × L), vs = [.ref a, .int ((n : Nat) : Int)] ∧ ChAt H a ch ∧ Pt n ch.1 ∧ Pt n ch.2 ∧ ch.1 ≠ ch.2 ∧ n ≤ 4 ∧ ∀ H', Ex H H' → Q (.bl true) H'
theorem ok_is_change {f : Addr} {fd : FuncData} (F : C8.Def K mg "is_change" sIsChange f fd) (b : Binds K fd ["thing", "n"] []) (T : Blt mg) (c1 : C8.Cal P w K mg base 2 "is_point" spIsPoint []) : C8.Cal P w K mg base 3 "is_change" spIsChange [] := by
  have sc : FnScope ["thing", "n"] ["thing", "n"] (C8.fnScope sIsChange) := C8.fnScope_by (by decide +kernel)
  refine C8.cal0 F b .nil sc (fun vs H Q E h => ?_) (fun cdv A outer s H vs Q E hr h => ?_)
  · obtain ⟨n, a, ch, rfl, _⟩ := h
    rfl
  · obtain ⟨n, a, ch, rfl, ha, h1, h2, hne, h4, k⟩ := h
    refine ⟨_, pss_cons (ps_if (PW.pt (pw_or (pt_not (pt_val (pe_callB isi_tup (by rfl) T.isi (by decide +kernel) (pa_cons (pv 0) (pa_cons (pe_bltn (v := .ty "tuple") (by rfl) T.tup (by decide +kernel) rfl) pa_nil)))))
        (pw_or1 (pt_cmpR op_ne (pe_callB call_len_seq (by rfl) T.len PySem.boot_len (pa_cons (pv 0) pa_nil)) pe_int (nomark _)))))
      (pss_one (ps_ret pe_bl)) pss_nil)
      (pss_one (ps_ret (pe_and (C8.pe_c c1 hr (by decide) (by rfl) (pa_cons (pe_ix ix_tup (pv 0) pe_int (fun _ _ => rfl)) (pa_cons (pv 1) pa_nil)))
        (pe_and (C8.pe_c c1 hr (by decide) (by rfl) (pa_cons (pe_ix ix_tup (pv 0) pe_int (fun _ _ => rfl)) (pa_cons (pv 1) pa_nil)))
        (pe_one (pe_cmpR op_ne (pe_ix ix_tup (pv 0) pe_int (fun _ _ => rfl)) (pe_ix ix_tup (pv 0) pe_int (fun _ _ => rfl)) (nomark _))))))), ?_⟩
    refine ⟨_, rfl, a, _, rfl, ha, true, rfl, iteF ?_⟩
    refine ⟨_, rfl, a, _, rfl, .inr (.inl (.inl ha)), rfl, _, rfl, iteNS rfl ?_⟩
    have at0 : atI [V.str (S ch.1), V.str (S ch.2)] 0 = some (.str (S ch.1)) := rfl
    have at1 : atI [V.str (S ch.1), V.str (S ch.2)] 1 = some (.str (S ch.2)) := rfl
    refine ⟨_, rfl, a, _, _, _, rfl, rfl, .inl (.inl ha), at0, _, rfl, n, ch.1, rfl, h1, h4, fun H1 e1 => ⟨true, rfl, iteT ?_⟩⟩
    have ha1 := e1 _ _ ha
    refine ⟨_, rfl, a, _, _, _, rfl, rfl, .inl (.inl ha1), at1, _, rfl, n, ch.2, rfl, h2, h4, fun H2 e2 => ⟨true, rfl, iteT ?_⟩⟩
    have ha2 := e2 _ _ ha1
    refine ⟨_, rfl, a, _, _, _, rfl, rfl, .inl (.inl ha2), at0, _, rfl, a, _, _, _, rfl, rfl, .inl (.inl ha2), at1, rfl, ?_⟩
    rw [vs_inj, decide_eq_false hne]
    exact k H2 (e1.trans e2)
abbrev sCheckChange : Stmt := top 19
def spCheckChange : Sp := fun vs H Q _ => ∃ (n : Nat) (a : Addr) (ch : L × L), vs = [.ref a, .int ((n : Nat) : Int)] ∧ ChAt H a ch ∧ Pt n ch.1 ∧ Pt n ch.2 ∧ ch.1 ≠ ch.2 ∧ n ≤ 4 ∧ ∀ H', Ex H H' → Q .non H'
theorem ok_check_change {f : Addr} {fd : FuncData} (F : C8.Def K mg "check_change" sCheckChange f fd) (b : Binds K fd ["change", "n"] []) (c1 : C8.Cal P w K mg base 3 "is_change" spIsChange []) : C8.Cal P w K mg base 4 "check_change" spCheckChange [] := by
  have sc : FnScope ["change", "n"] ["change", "n"] (C8.fnScope sCheckChange) := C8.fnScope_by (by decide +kernel)
  refine C8.cal0 F b .nil sc (fun vs H Q E h => ?_) (fun cdv A outer s H vs Q E hr h => ?_)
  · obtain ⟨n, a, ch, rfl, _⟩ := h
    rfl
  · obtain ⟨n, a, ch, rfl, ha, h1, h2, hne, h4, k⟩ := h
    refine ⟨_, pss_one (ps_if (pt_not (pt_val (C8.pe_c c1 hr (by decide) (by rfl) (pa_cons (pv 0) (pa_cons (pv 1) pa_nil))))) (pss_one ps_never) pss_nil), ?_⟩
    exact ⟨_, rfl, _, rfl, n, a, ch, rfl, ha, h1, h2, hne, h4, fun H1 e1 => ⟨true, rfl, iteF (k H1 e1)⟩⟩
abbrev sSizeOfChange : Stmt := top 20
def spSizeOfChange : Sp := fun vs H Q _ => ∃ (n : Nat) (a : Addr) (ch : L × L), vs = [.ref a] ∧ ChAt H a ch ∧ Pt n ch.1 ∧ Pt n ch.2 ∧ ch.1 ≠ ch.2 ∧ 1 ≤ n ∧ n ≤ 4 ∧ ∀ H', Ex H H' → Q (.int ((n : Nat) : Int)) H'
theorem ok_size_of_change {f : Addr} {fd : FuncData} (F : C8.Def K mg "size_of_change" sSizeOfChange f fd) (b : Binds K fd ["change"] []) (T : Blt mg) (c0 : C8.Cal P w K mg base 1 "some_size" spSomeSize []) (c1 : C8.Cal P w K mg base 3 "is_change" spIsChange []) : C8.Cal P w K mg base 4 "size_of_change" spSizeOfChange [] := by
  have sc : FnScope ["change", "size"] ["change"] (C8.fnScope sSizeOfChange) := C8.fnScope_by (by decide +kernel)
  refine C8.cal0 F b .nil sc (fun vs H Q E h => ?_) (fun cdv A outer s H vs Q E hr h => ?_)
  · obtain ⟨n, a, ch, rfl, _⟩ := h
    rfl
  · obtain ⟨n, a, ch, rfl, ha, h1, h2, hne, hn1, h4, k⟩ := h
    refine ⟨_, pss_cons (ps_if (PW.pt (pw_or (pt_not (pt_val (pe_callB isi_tup (by rfl) T.isi (by decide +kernel) (pa_cons (pv 0) (pa_cons (pe_bltn (v := .ty "tuple") (by rfl) T.tup (by decide +kernel) rfl) pa_nil)))))
        (pw_or1 (pt_cmpR op_ne (pe_callB call_len_seq (by rfl) T.len PySem.boot_len (pa_cons (pv 0) pa_nil)) pe_int (nomark _)))))
      (pss_one ps_never) pss_nil)
      (pss_cons (ps_set (i := 1) sc.nd rfl (.inl rfl) (C8.pe_c c0 hr (by decide) (by rfl) (pa_cons (pe_ix ix_tup (pv 0) pe_int (fun _ _ => rfl)) pa_nil)))
      (pss_cons (ps_if (PW.pt (pw_or (pt_cmpR op_eq (pv 1) pe_int (nomark _)) (pw_or1 (pt_not (pt_val (C8.pe_c c1 hr (by decide) (by rfl) (pa_cons (pv 0) (pa_cons (pv 1) pa_nil)))))))) (pss_one ps_never) pss_nil)
      (pss_one (ps_ret (pv 1))))), ?_⟩
    refine ⟨_, rfl, a, _, rfl, ha, true, rfl, iteF ?_⟩
    refine ⟨_, rfl, a, _, rfl, .inr (.inl (.inl ha)), rfl, _, rfl, iteNS rfl ?_⟩
    have at0 : atI [V.str (S ch.1), V.str (S ch.2)] 0 = some (.str (S ch.1)) := rfl
    refine ⟨_, rfl, a, _, _, _, rfl, rfl, .inl (.inl ha), at0, n, ch.1, rfl, h1, h4, fun H1 e1 => ?_⟩
    have ha1 := e1 _ _ ha
    refine ⟨_, rfl, rfl, _, rfl, ?_⟩
    refine iteDF (fun z => by have z' := V.int.inj z; omega) ?_
    exact ⟨_, rfl, _, rfl, n, a, ch, rfl, ha1, h1, h2, hne, h4, fun H2 e2 => ⟨true, rfl, iteF ⟨_, rfl, k H2 (e1.trans e2)⟩⟩⟩
abbrev sChangeCube : Stmt := top 21
def spChangeCube : Sp := fun vs H Q _ => ∃ (n : Nat) (a : Addr) (ch : L × L), vs = [.ref a] ∧ ChAt H a ch ∧ Pt n ch.1 ∧ Pt n ch.2 ∧ ch.1 ≠ ch.2 ∧ 1 ≤ n ∧ n ≤ 4 ∧ ∀ H', Ex H H' → Q (.str (S (span ch.1 ch.2))) H'
theorem ok_change_cube {f : Addr} {fd : FuncData} (F : C8.Def K mg "change_cube" sChangeCube f fd) (b : Binds K fd ["change"] []) (c0 : C8.Cal P w K mg base 4 "size_of_change" spSizeOfChange []) (c1 : C8.Cal P w K mg base 1 "joined" spJoined []) : C8.Cal P w K mg base 5 "change_cube" spChangeCube [] := by
  have sc : FnScope ["change"] ["change"] (C8.fnScope sChangeCube) := C8.fnScope_by (by decide +kernel)
  refine C8.cal0 F b .nil sc (fun vs H Q E h => ?_) (fun cdv A outer s H vs Q E hr h => ?_)
  · obtain ⟨n, a, ch, rfl, _⟩ := h
    rfl
  · obtain ⟨n, a, ch, rfl, ha, h1, h2, hne, hn1, h4, k⟩ := h
    refine ⟨_, pss_cons (ps_expr (C8.pe_c c0 hr (by decide) (by rfl) (pa_cons (pv 0) pa_nil)))
      (pss_one (ps_ret (C8.pe_c c1 hr (by decide) (by rfl) (pa_cons (pe_ix ix_tup (pv 0) pe_int (fun _ _ => rfl)) (pa_cons (pe_ix ix_tup (pv 0) pe_int (fun _ _ => rfl)) pa_nil))))), ?_⟩
    refine ⟨_, rfl, n, a, ch, rfl, ha, h1, h2, hne, hn1, h4, fun H1 e1 => ?_⟩
    have ha1 := e1 _ _ ha
    have at0 : atI [V.str (S ch.1), V.str (S ch.2)] 0 = some (.str (S ch.1)) := rfl
    have at1 : atI [V.str (S ch.1), V.str (S ch.2)] 1 = some (.str (S ch.2)) := rfl
    refine ⟨_, rfl, a, _, _, _, rfl, rfl, .inl (.inl ha1), at0, _, rfl, a, _, _, _, rfl, rfl, .inl (.inl ha1), at1, n, ch.1, ch.2, rfl, h1.len, h2.len, h4, fun H2 e2 => k H2 (e1.trans e2)⟩
abbrev sSignAt : Stmt := inClass (top 37) 3
def spSignAt (CT : Addr) : Sp := fun vs H Q _ => ∃ (n : Nat) (a : Addr) (t p : L), vs = [.ref a, .str (S p)] ∧ TabAt CT H a t n ∧ Tb n t ∧ Pt n p ∧ ∀ H', Ex H H' → Q (.str (S [val t p])) H'
theorem ok_sign_at {f : Addr} {fd : FuncData} (TC : TabC K CT) (me : Meth K CT "sign_at" f) (F : C8.Fun K "sign_at" "Table.sign_at" sSignAt f fd) (b : Binds K fd ["self", "point"] []) (T : Blt mg) : C8.Met P w K mg base 1 CT "sign_at" (spSignAt CT) [] := by
  have sc : FnScope ["self", "point"] ["self", "point"] (C8.fnScope sSignAt) := C8.fnScope_by (by decide +kernel)
  refine C8.met0 TC.cl me F b sc (fun vs H Q E h => ?_) (fun cdv A outer s H vs Q E hr h => ?_)
  · obtain ⟨n, a, t, p, rfl, _⟩ := h
    rfl
  · obtain ⟨n, a, t, p, rfl, ⟨dx, ha⟩, ht, hp, k⟩ := h
    refine ⟨_, pss_one (ps_ret (pe_ix ix_str (pe_fld (pv 0) rfl) (pe_callTy call_int_bin (by rfl) T.int (by decide +kernel) (pa_cons (pv 1) (pa_cons pe_int pa_nil))) (fun _ _ => rfl))), ?_⟩
    have h16 := pow_le ht.hi
    refine ⟨_, rfl, a, CT, dx, _, _, rfl, ha, TC.cl, TC.text, tfs_text t n, _, rfl, n, p, rfl, hp, ht.lo, ht.hi, S t, _, val t p, rfl, rfl, sz_S (by rw [ht.len]; omega), atI_nat (val_at ht hp), k H (Ex.refl H)⟩
end
end Sc

namespace Sc
open PySem L2
open Evl (Ex Ev)
theorem vs1_inj {a b : Nat} : (decide (V.str (S [a]) = V.str (S [b]))) = decide (a = b) := by
  rw [vs_inj]
  by_cases h : a = b
  · rw [h, decide_eq_true rfl, decide_eq_true rfl]
  · rw [decide_eq_false h, decide_eq_false]
    exact fun z => h (List.cons.inj z).1
theorem txs_at {l : List L} {i : Nat} {y : V} (h : (txs l)[i]? = some y) : ∃ r, l[i]? = some r ∧ y = .str (S r) := by
  unfold txs at h
  rw [List.getElem?_map] at h
  cases e : l[i]? with
  | none =>
    rw [e] at h
    cases h
  | some r =>
    rw [e] at h
    exact ⟨r, rfl, (Option.some.inj h).symm⟩
/-- for over a list of texts -/
theorem for_txs {K : PySem.W.Frag} {a : Addr} {l : List L} {j : Nat} {tb : TS} {D : Ends} {σ : L2.St} {H : Hp} (Pv : Nat → L2.St → Hp → Prop) (h0 : Pv 0 σ H) (hl : ∀ i σ' H', i ≤ l.length → Pv i σ' H' → H' a = some (.lst (txs l)))
    (hs : ∀ i r σ' H', l[i]? = some r → Pv i σ' H' → tb { D with nx := Pv (i + 1), ct := Pv (i + 1), bk := D.nx } (σ'.set j (some (.str (S r)))) H') (hd : ∀ σ' H', Pv l.length σ' H' → D.nx σ' H') :
    ∃ W : Nat → Nat → L2.St → Hp → Prop, (∃ m, W 0 m σ H) ∧ ∀ i m σ H, W i m σ H →
      ((Itl K a).stop i H ∧ D.nx σ H) ∨ ((Itl K a).go i H ∧ ∃ N : L2.St → Hp → Prop, (∀ σ' H', N σ' H' → ∃ m', m' < m ∧ W (i + 1) m' σ' H') ∧ ∀ x H', (Itl K a).yld i H x H' → gName j x σ H' fun σ2 H2 => tb { D with nx := N, ct := N, bk := D.nx } σ2 H2) := by
  have e : (txs l).length = l.length := List.length_map ..
  refine for_it (walk_list (K := K) (a := a) (xs := txs l)) Pv h0 (fun i σ' H' hi p => Evl.sq_of (hl i σ' H' (by rw [← e]; exact hi) p)) (fun i x σ' H' H2 hi p y => ?_) (fun σ' H' p => hd σ' H' (by rw [← e]; exact p))
  obtain ⟨rfl, hx⟩ := y
  obtain ⟨r, hr, rfl⟩ := txs_at hx
  exact hs i r σ' H2 hr p
section
variable {P : Program} {w : World} {K : PySem.W.Frag} {mg : Str → Option Value} {base : Heap} {CT : Addr}
abbrev sUneven : Stmt := top 22
def spUneven (CT : Addr) : Sp := fun vs H Q _ => ∃ (n : Nat) (a c : Addr) (t : L) (ch : L × L), vs = [.ref a, .ref c] ∧ TabAt CT H a t n ∧ Tb n t ∧ ChAt H c ch ∧ GoodCh n t ch ∧ ∀ H', Ex H H' → Q .non H'
theorem ok_uneven {f : Addr} {fd : FuncData} (F : C8.Def K mg "uneven_way" sUneven f fd) (b : Binds K fd ["table", "change"] []) (cS : C8.Met P w K mg base 1 CT "sign_at" (spSignAt CT) []) (cJ : C8.Cal P w K mg base 1 "joined" spJoined []) (cF : C8.Cal P w K mg base 1 "filled" spFilled []) :
    C8.Cal P w K mg base 2 "uneven_way" (spUneven CT) [] := by
  have sc : FnScope ["table", "change", "start", "end", "first", "last", "points", "x", "y"] ["table", "change"] (C8.fnScope sUneven) := C8.fnScope_by (by decide +kernel)
  refine C8.cal0 F b .nil sc (fun vs H Q E h => ?_) (fun cdv A outer s H vs Q E hr h => ?_)
  · obtain ⟨n, a, c, t, ch, rfl, _⟩ := h
    rfl
  · obtain ⟨n, a, c, t, ch, rfl, hT, ht, hc, g, k⟩ := h
    refine ⟨_, pss_cons (ps_asg (pv 1) (pg_tup rfl (pgs_cons (pg_name (i := 2) sc.nd rfl (.inl rfl)) (pgs_cons (pg_name (i := 3) sc.nd rfl (.inl rfl)) pgs_nil))))
      (pss_cons (ps_par (i := 4) (j := 5) rfl sc.nd rfl rfl (by decide) rfl rfl (pa_cons (C8.pe_mt cS hr (by decide) (pv 0) (pa_cons (pv 2) pa_nil)) (pa_cons (C8.pe_mt cS hr (by decide) (pv 0) (pa_cons (pv 3) pa_nil)) pa_nil)) (by rfl))
      (pss_cons (ps_set (i := 6) sc.nd rfl (.inl rfl) (C8.pe_c cF hr (by decide) (by rfl) (pa_cons (C8.pe_c cJ hr (by decide) (by rfl) (pa_cons (pv 2) (pa_cons (pv 3) pa_nil))) (pa_cons pe_str pa_nil))))
      (pss_cons (ps_for PassesOwn.never rfl (pi_list (pv 6)) (pg_name (i := 7) sc.nd rfl (.inl rfl))
        (C8.pss_cut (ps_if (PW.pt (pw_and (pt_cmpR op_eq (pv 4) (pv 5) (nomark _)) (pw_and1 (pt_cmpR op_ne (C8.pe_mt cS hr (by decide) (pv 0) (pa_cons (pv 7) pa_nil)) (pv 4) (nomark _)))))
          (pss_one ps_never) pss_nil)
        (pss_one (ps_if (PW.pt (pw_and (pt_cmpR op_ne (pv 4) (pv 5) (nomark _)) (pw_and1 (pt_cmpR op_eq (C8.pe_mt cS hr (by decide) (pv 0) (pa_cons (pv 7) pa_nil)) (pv 5) (nomark _)))))
          (pss_one (ps_for PassesOwn.never rfl (pi_list (C8.pe_c cF hr (by decide) (by rfl) (pa_cons (C8.pe_c cJ hr (by decide) (by rfl) (pa_cons (pv 7) (pa_cons (pv 3) pa_nil))) (pa_cons pe_str pa_nil)))) (pg_name (i := 8) sc.nd rfl (.inl rfl))
            (pss_one (ps_if (pt_cmpR op_eq (C8.pe_mt cS hr (by decide) (pv 0) (pa_cons (pv 8) pa_nil)) (pv 4) (nomark _)) (pss_one ps_never) pss_nil)))) pss_nil))))
      (pss_one (ps_ret pe_non))))), ?_⟩
    have hsp : Cb n (span ch.1 ch.2) := span_cb g.a.cb g.b.len
    -- start, end = change
    refine ⟨_, rfl, c, _, rfl, .inl (.inl hc), rfl, _, _, rfl, _, _, rfl, rfl, ?_⟩
    -- first, last
    have hno : (tfs t n).lookup ("sign_at" : Str) = none := tfs_no t n (by decide +kernel) (by decide +kernel)
    obtain ⟨dx, hT0⟩ := id hT
    refine ⟨_, rfl, a, dx, _, rfl, hT0, hno, _, rfl, n, a, t, ch.1, rfl, hT, ht, g.a, fun H1 e1 => ?_⟩
    refine ⟨_, rfl, a, dx, _, rfl, e1 _ _ hT0, hno, _, rfl, n, a, t, ch.2, rfl, hT.ex e1, ht, g.b, fun H2 e2 => ?_⟩
    refine ⟨_, _, rfl, ?_⟩
    -- points
    refine ⟨_, rfl, _, rfl, n, ch.1, ch.2, rfl, g.a.len, g.b.len, ht.hi, fun H3 e3 => ?_⟩
    refine ⟨n, span ch.1 ch.2, rfl, hsp, ht.hi, fun H4 pp e4 hp4 hP => ?_⟩
    have e04 := ((e1.trans e2).trans e3).trans e4
    -- the loop
    refine ⟨_, rfl, pp, rfl, ⟨_, Evl.sq_of hP⟩, for_txs (l := pts (span ch.1 ch.2)) (fun i σ' H' => Ex H4 H' ∧ ∃ v w, σ' = [some (.ref a), some (.ref c), some (.str (S ch.1)), some (.str (S ch.2)), some (.str (S [val t ch.1])), some (.str (S [val t ch.2])), some (.ref pp), v, w])
      ⟨Ex.refl _, _, _, rfl⟩ (fun i σ' H' _ p => p.1 _ _ hP) ?_ ?_⟩
    · rintro i x σ' H' hi ⟨e5, v, w, rfl⟩
      have hxm : x ∈ pts (span ch.1 ch.2) := List.mem_of_getElem? hi
      have hx : Pt n x := pts_pt hsp hxm
      have eH := e04.trans e5
      obtain ⟨dy, hT5⟩ := id (hT.ex eH)
      -- first == last and table.sign_at(x) != first
      refine ⟨fun σ2 H6 => Ex H' H6 ∧ σ2 = [some (.ref a), some (.ref c), some (.str (S ch.1)), some (.str (S ch.2)), some (.str (S [val t ch.1])), some (.str (S [val t ch.2])), some (.ref pp), some (.str (S x)), w], ?_, ?_⟩
      · refine ⟨_, rfl, _, rfl, rfl, _, rfl, ?_⟩
        rw [vs1_inj]
        by_cases hev : val t ch.1 = val t ch.2
        · refine iteD hev ⟨_, rfl, a, dy, _, rfl, hT5, hno, _, rfl, n, a, t, x, rfl, hT.ex eH, ht, hx, fun H6 e6 => ⟨_, rfl, rfl, _, rfl, ?_⟩⟩
          rw [vs1_inj]
          exact iteNS (g.pl.even hev x hxm) ⟨e6, rfl⟩
        · exact iteDF hev (iteF ⟨Ex.refl _, rfl⟩)
      · rintro σ2 H6 ⟨e6, rfl⟩
        have eH6 := eH.trans e6
        obtain ⟨dz, hT6⟩ := id (hT.ex eH6)
        refine ⟨_, rfl, _, rfl, rfl, _, rfl, ?_⟩
        rw [vs1_inj]
        by_cases hev : val t ch.1 = val t ch.2
        · exact iteNS hev (iteF ⟨e5.trans e6, _, _, rfl⟩)
        · refine iteNF hev ⟨_, rfl, a, dz, _, rfl, hT6, hno, _, rfl, n, a, t, x, rfl, hT.ex eH6, ht, hx, fun H7 e7 => ⟨_, rfl, rfl, _, rfl, ?_⟩⟩
          rw [vs1_inj]
          by_cases hxl : val t x = val t ch.2
          · refine iteD hxl ⟨_, rfl, _, rfl, n, x, ch.2, rfl, hx.len, g.b.len, ht.hi, fun H8 e8 => ⟨n, span x ch.2, rfl, span_cb hx.cb g.b.len, ht.hi, fun H9 p9 e9 hp9 hP9 => ?_⟩⟩
            have e69 := (e7.trans e8).trans e9
            refine ⟨p9, rfl, ⟨_, Evl.sq_of hP9⟩, for_txs (l := pts (span x ch.2)) (fun i σ' H' => Ex H9 H' ∧ ∃ w, σ' = [some (.ref a), some (.ref c), some (.str (S ch.1)), some (.str (S ch.2)), some (.str (S [val t ch.1])), some (.str (S [val t ch.2])), some (.ref pp), some (.str (S x)), w])
              ⟨Ex.refl _, _, rfl⟩ (fun i σ' H' _ p => p.1 _ _ hP9) ?_ ?_⟩
            · rintro i y σ' H10 hi ⟨e10, w', rfl⟩
              have hym : y ∈ pts (span x ch.2) := List.mem_of_getElem? hi
              have hy : Pt n y := pts_pt (span_cb hx.cb g.b.len) hym
              have eH10 := eH6.trans (e69.trans e10)
              obtain ⟨du, hT10⟩ := id (hT.ex eH10)
              refine ⟨_, rfl, a, du, _, rfl, hT10, hno, _, rfl, n, a, t, y, rfl, hT.ex eH10, ht, hy, fun H11 e11 => ⟨_, rfl, rfl, _, rfl, ?_⟩⟩
              rw [vs1_inj]
              exact iteDF (g.pl.mono hev x hxm hxl y hym) ⟨e10.trans e11, _, rfl⟩
            · rintro σ' H10 ⟨e10, w', rfl⟩
              exact ⟨e5.trans (e6.trans (e69.trans e10)), _, _, rfl⟩
          · exact iteDF hxl ⟨e5.trans (e6.trans e7), _, _, rfl⟩
    · rintro σ' H' ⟨e5, v, w, rfl⟩
      exact k H' (e04.trans e5)
end
end Sc

namespace Sc
open PySem L2
open Evl (Ex Ev)
theorem sz_S2 {a b : Nat} (h : True) : (S [a]).length + (S [b]).length ≤ sizeLine := Nat.le_of_lt (small1000 (by show 1 + 1 ≤ 1000; decide))
section
variable {P : Program} {w : World} {K : PySem.W.Frag} {mg : Str → Option Value} {base : Heap} {CT : Addr}
abbrev sNature : Stmt := top 23
/-- a plain change's nature: a new tuple of one text -/
def spNature (CT : Addr) : Sp := fun vs H Q _ => ∃ (n : Nat) (a c : Addr) (t : L) (ch : L × L), vs = [.ref a, .ref c] ∧ TabAt CT H a t n ∧ Tb n t ∧ ChAt H c ch ∧ GoodCh n t ch ∧ ∀ H' p (x : Str), Ex H H' → H p = none → H' p = some (.tup [.str x]) → Q (.ref p) H'
theorem ok_nature {f : Addr} {fd : FuncData} (TC : TabC K CT) (F : C8.Def K mg "nature" sNature f fd) (b : Binds K fd ["table", "change"] []) (cC : C8.Cal P w K mg base 4 "check_change" spCheckChange []) (cS : C8.Met P w K mg base 1 CT "sign_at" (spSignAt CT) []) (cJ : C8.Cal P w K mg base 1 "joined" spJoined []) (cF : C8.Cal P w K mg base 1 "filled" spFilled [])
    (cU : C8.Cal P w K mg base 2 "uneven_way" (spUneven CT) []) : C8.Cal P w K mg base 5 "nature" (spNature CT) [] := by
  have sc : FnScope ["table", "change", "start", "end", "point", "way", "ends"] ["table", "change"] (C8.fnScope sNature) := C8.fnScope_by (by decide +kernel)
  refine C8.cal0 F b .nil sc (fun vs H Q E h => ?_) (fun cdv A outer s H vs Q E hr h => ?_)
  · obtain ⟨n, a, c, t, ch, rfl, _⟩ := h
    rfl
  · obtain ⟨n, a, c, t, ch, rfl, hT, ht, hc, g, k⟩ := h
    refine ⟨_, pss_cons (ps_expr (C8.pe_c cC hr (by decide) (by rfl) (pa_cons (pv 1) (pa_cons (pe_fld (pv 0) rfl) pa_nil))))
      (pss_cons (ps_asg (pv 1) (pg_tup rfl (pgs_cons (pg_name (i := 2) sc.nd rfl (.inl rfl)) (pgs_cons (pg_name (i := 3) sc.nd rfl (.inl rfl)) pgs_nil))))
      (pss_cons (ps_for PassesOwn.never rfl (pi_list (C8.pe_c cF hr (by decide) (by rfl) (pa_cons (C8.pe_c cJ hr (by decide) (by rfl) (pa_cons (pv 2) (pa_cons (pv 3) pa_nil))) (pa_cons pe_str pa_nil)))) (pg_name (i := 4) sc.nd rfl (.inl rfl))
        (pss_one (ps_if (pt_cmpR op_eq (C8.pe_mt cS hr (by decide) (pv 0) (pa_cons (pv 4) pa_nil)) pe_str (nomark _)) (pss_one ps_never) pss_nil)))
      (pss_cons (ps_set (i := 5) sc.nd rfl (.inl rfl) (C8.pe_c cU hr (by decide) (by rfl) (pa_cons (pv 0) (pa_cons (pv 1) pa_nil))))
      (pss_cons (ps_if (pt_cmpR op_notN (pv 5) pe_non (nomark _)) (pss_one ps_never) pss_nil)
      (pss_cons (ps_set (i := 6) sc.nd rfl (.inl rfl) (pe_op op_add_str (C8.pe_mt cS hr (by decide) (pv 0) (pa_cons (pv 2) pa_nil)) (C8.pe_mt cS hr (by decide) (pv 0) (pa_cons (pv 3) pa_nil))))
      (pss_cons (ps_if (pt_cmpR op_eq (pv 6) pe_str (nomark _)) (pss_one (ps_ret (pe_tup (pa_cons pe_str pa_nil)))) pss_nil)
      (pss_cons (ps_if (pt_cmpR op_eq (pv 6) pe_str (nomark _)) (pss_one (ps_ret (pe_tup (pa_cons pe_str pa_nil)))) pss_nil)
      (pss_cons (ps_if (pt_cmpR op_eq (pv 6) pe_str (nomark _)) (pss_one (ps_ret (pe_tup (pa_cons pe_str pa_nil)))) pss_nil)
      (pss_one (ps_ret (pe_tup (pa_cons pe_str pa_nil)))))))))))), ?_⟩
    have hsp : Cb n (span ch.1 ch.2) := span_cb g.a.cb g.b.len
    have hno : (tfs t n).lookup ("sign_at" : Str) = none := tfs_no t n (by decide +kernel) (by decide +kernel)
    obtain ⟨dx, hT0⟩ := id hT
    have one : ∀ x : V, [x].length ≤ sizeLine := fun x => Nat.le_of_lt (small1000 (by show 1 ≤ 1000; decide))
    -- check_change(change, table.n)
    refine ⟨_, rfl, _, rfl, a, CT, dx, _, _, rfl, hT0, TC.cl, TC.n, tfs_n t n, n, c, ch, rfl, hc, g.a, g.b, g.ne, ht.hi, fun H1 e1 => ?_⟩
    -- start, end = change
    refine ⟨_, rfl, c, _, rfl, .inl (.inl (e1 _ _ hc)), rfl, _, _, rfl, _, _, rfl, rfl, ?_⟩
    -- the loop
    refine ⟨_, rfl, _, rfl, n, ch.1, ch.2, rfl, g.a.len, g.b.len, ht.hi, fun H3 e3 => ?_⟩
    refine ⟨n, span ch.1 ch.2, rfl, hsp, ht.hi, fun H4 pp e4 hp4 hP => ?_⟩
    have e04 := (e1.trans e3).trans e4
    refine ⟨pp, rfl, ⟨_, Evl.sq_of hP⟩, for_txs (l := pts (span ch.1 ch.2)) (fun i σ' H' => Ex H4 H' ∧ ∃ v, σ' = [some (.ref a), some (.ref c), some (.str (S ch.1)), some (.str (S ch.2)), v, none, none])
      ⟨Ex.refl _, _, rfl⟩ (fun i σ' H' _ p => p.1 _ _ hP) ?_ ?_⟩
    · rintro i x σ' H' hi ⟨e5, v, rfl⟩
      have hxm : x ∈ pts (span ch.1 ch.2) := List.mem_of_getElem? hi
      have hx : Pt n x := pts_pt hsp hxm
      have eH := e04.trans e5
      obtain ⟨dy, hT5⟩ := id (hT.ex eH)
      refine ⟨_, rfl, a, dy, _, rfl, hT5, hno, _, rfl, n, a, t, x, rfl, hT.ex eH, ht, hx, fun H6 e6 => ⟨rfl, _, rfl, ?_⟩⟩
      rw [lit "-" (l := [45]) (by decide), vs1_inj]
      exact iteDF (g.pl.nofree x hxm) ⟨e5.trans e6, _, rfl⟩
    · rintro σ' H' ⟨e5, v, rfl⟩
      have eH := e04.trans e5
      -- way = uneven_way(table, change)
      refine ⟨_, rfl, _, rfl, n, a, c, t, ch, rfl, hT.ex eH, ht, eH _ _ hc, g, fun H6 e6 => ?_⟩
      refine ⟨_, rfl, rfl, _, rfl, iteNS rfl ?_⟩
      have eH6 := eH.trans e6
      obtain ⟨dy, hT6⟩ := id (hT.ex eH6)
      -- ends
      refine ⟨_, rfl, a, dy, _, rfl, hT6, hno, _, rfl, n, a, t, ch.1, rfl, hT.ex eH6, ht, g.a, fun H7 e7 => ?_⟩
      have eH7 := eH6.trans e7
      obtain ⟨dz, hT7⟩ := id (hT.ex eH7)
      refine ⟨_, rfl, a, dz, _, rfl, hT7, hno, _, rfl, n, a, t, ch.2, rfl, hT.ex eH7, ht, g.b, fun H8 e8 => ?_⟩
      have eH8 := eH7.trans e8
      refine ⟨_, _, rfl, rfl, sz_S2 (by decide), ?_⟩
      have ret : ∀ x : Str, ∀ p, H8 p = none → Q (.ref p) (upd H8 p (.tup [.str x])) := fun x p hp => k _ p x (eH8.trans (Ex.new hp)) (Evl.fresh_back eH8 hp) upd_same
      refine ⟨_, rfl, rfl, _, rfl, ite2 (fun _ => ⟨one _, fun p hp => ret _ p hp⟩) (fun _ => ?_)⟩
      refine ⟨_, rfl, rfl, _, rfl, ite2 (fun _ => ⟨one _, fun p hp => ret _ p hp⟩) (fun _ => ?_)⟩
      refine ⟨_, rfl, rfl, _, rfl, ite2 (fun _ => ⟨one _, fun p hp => ret _ p hp⟩) (fun _ => ?_)⟩
      exact ⟨one _, fun p hp => ret _ p hp⟩
abbrev sIsPlain : Stmt := top 24
def spIsPlain (CT : Addr) : Sp := fun vs H Q _ => ∃ (n : Nat) (a c : Addr) (t : L) (ch : L × L), vs = [.ref a, .ref c] ∧ TabAt CT H a t n ∧ Tb n t ∧ ChAt H c ch ∧ GoodCh n t ch ∧ ∀ H', Ex H H' → Q (.bl true) H'
theorem ok_is_plain {f : Addr} {fd : FuncData} (F : C8.Def K mg "is_plain" sIsPlain f fd) (b : Binds K fd ["table", "change"] []) (T : Blt mg) (cN : C8.Cal P w K mg base 5 "nature" (spNature CT) []) : C8.Cal P w K mg base 6 "is_plain" (spIsPlain CT) [] := by
  have sc : FnScope ["table", "change"] ["table", "change"] (C8.fnScope sIsPlain) := C8.fnScope_by (by decide +kernel)
  refine C8.cal0 F b .nil sc (fun vs H Q E h => ?_) (fun cdv A outer s H vs Q E hr h => ?_)
  · obtain ⟨n, a, c, t, ch, rfl, _⟩ := h
    rfl
  · obtain ⟨n, a, c, t, ch, rfl, hT, ht, hc, g, k⟩ := h
    refine ⟨_, pss_one (ps_ret (pe_cmpR op_eq (pe_callB call_len_seq (by rfl) T.len PySem.boot_len (pa_cons (C8.pe_c cN hr (by decide) (by rfl) (pa_cons (pv 0) (pa_cons (pv 1) pa_nil))) pa_nil)) pe_int (nomark _))), ?_⟩
    exact ⟨_, rfl, _, rfl, n, a, c, t, ch, rfl, hT, ht, hc, g, fun H1 p x e1 hp h1 => ⟨p, _, rfl, .inr (.inl (.inl h1)), rfl, k H1 e1⟩⟩
abbrev sTurning : Stmt := top 25
def spTurning (CT : Addr) : Sp := fun vs H Q _ => ∃ (n : Nat) (a c : Addr) (t : L) (ch : L × L), vs = [.ref a, .ref c] ∧ TabAt CT H a t n ∧ Tb n t ∧ ChAt H c ch ∧ GoodCh n t ch ∧ ∀ H' v, Ex H H' → v = .non ∨ v = .str (S ch.1) ∨ v = .str (S ch.2) → Q v H'
theorem ok_turning {f : Addr} {fd : FuncData} (F : C8.Def K mg "turning" sTurning f fd) (b : Binds K fd ["table", "change"] []) (cN : C8.Cal P w K mg base 5 "nature" (spNature CT) []) : C8.Cal P w K mg base 6 "turning" (spTurning CT) [] := by
  have sc : FnScope ["table", "change", "told"] ["table", "change"] (C8.fnScope sTurning) := C8.fnScope_by (by decide +kernel)
  refine C8.cal0 F b .nil sc (fun vs H Q E h => ?_) (fun cdv A outer s H vs Q E hr h => ?_)
  · obtain ⟨n, a, c, t, ch, rfl, _⟩ := h
    rfl
  · obtain ⟨n, a, c, t, ch, rfl, hT, ht, hc, g, k⟩ := h
    refine ⟨_, pss_cons (ps_set (i := 2) sc.nd rfl (.inl rfl) (C8.pe_c cN hr (by decide) (by rfl) (pa_cons (pv 0) (pa_cons (pv 1) pa_nil))))
      (pss_cons (ps_if (pt_cmpR op_eq (pe_ix ix_tup (pv 2) pe_int (fun _ _ => rfl)) pe_str (nomark _)) (pss_one (ps_ret (pe_ix ix_tup (pv 1) pe_int (fun _ _ => rfl)))) pss_nil)
      (pss_cons (ps_if (pt_cmpR op_eq (pe_ix ix_tup (pv 2) pe_int (fun _ _ => rfl)) pe_str (nomark _)) (pss_one (ps_ret (pe_ix ix_tup (pv 1) pe_int (fun _ _ => rfl)))) pss_nil)
      (pss_one (ps_ret pe_non)))), ?_⟩
    have at0 : atI [V.str (S ch.1), V.str (S ch.2)] 0 = some (.str (S ch.1)) := rfl
    have at1 : atI [V.str (S ch.1), V.str (S ch.2)] 1 = some (.str (S ch.2)) := rfl
    refine ⟨_, rfl, _, rfl, n, a, c, t, ch, rfl, hT, ht, hc, g, fun H1 p x e1 hp h1 => ?_⟩
    have hc1 := e1 _ _ hc
    have a0 : atI [V.str x] 0 = some (.str x) := rfl
    refine ⟨_, rfl, p, _, _, _, rfl, rfl, .inl (.inl h1), a0, rfl, _, rfl, ite2 (fun _ => ?_) (fun _ => ?_)⟩
    · exact ⟨_, rfl, c, _, _, _, rfl, rfl, .inl (.inl hc1), at1, k H1 _ e1 (.inr (.inr rfl))⟩
    refine ⟨_, rfl, p, _, _, _, rfl, rfl, .inl (.inl h1), a0, rfl, _, rfl, ite2 (fun _ => ?_) (fun _ => ?_)⟩
    · exact ⟨_, rfl, c, _, _, _, rfl, rfl, .inl (.inl hc1), at0, k H1 _ e1 (.inr (.inl rfl))⟩
    exact k H1 _ e1 (.inl rfl)
end
end Sc

namespace Sc
open PySem L2
open Evl (Ex Ev)
def refs (cs : List Addr) : List V := cs.map V.ref
/-- the changes chs stand at the addresses cs, in order -/
structure ChsAt (H : Hp) (cs : List Addr) (chs : List (L × L)) : Prop where
  len : cs.length = chs.length
  at_ : ∀ (i : Nat) (c : Addr) (ch : L × L), cs[i]? = some c → chs[i]? = some ch → ChAt H c ch
theorem ChsAt.ex {H H' : Hp} {cs : List Addr} {chs : List (L × L)} (h : ChsAt H cs chs) (e : Ex H H') : ChsAt H' cs chs := ⟨h.len, fun i c ch h1 h2 => e _ _ (h.at_ i c ch h1 h2)⟩
theorem ChsAt.get {H : Hp} {cs : List Addr} {chs : List (L × L)} (h : ChsAt H cs chs) {i : Nat} {x : V} (hx : (refs cs)[i]? = some x) : ∃ c ch, x = .ref c ∧ chs[i]? = some ch ∧ ChAt H c ch := by
  unfold refs at hx
  rw [List.getElem?_map] at hx
  cases e : cs[i]? with
  | none =>
    rw [e] at hx
    cases hx
  | some c =>
    rw [e] at hx
    have hi : i < chs.length := by
      rw [← h.len]
      exact (List.getElem?_eq_some_iff.mp e).1
    exact ⟨c, chs[i], (Option.some.inj hx).symm, List.getElem?_eq_getElem hi, h.at_ i c _ e (List.getElem?_eq_getElem hi)⟩
/-- for i, x in enumerate(..) -/
theorem for_en {J : It} {G : Hp → Prop} {xs : List V} {k0 : Int} {K : PySem.W.Frag} {j1 j2 : Nat} {tb : TS} {D : Ends} {σ : L2.St} {H : Hp} (w : Walk J xs.length G (YEn k0 fun i => xs[i]?)) (Pv : Nat → L2.St → Hp → Prop) (h0 : Pv 0 σ H) (hG : ∀ i σ' H', i ≤ xs.length → Pv i σ' H' → G H')
    (hs : ∀ i x σ' H' T, xs[i]? = some x → Pv i σ' H' → H' T = none → tb { D with nx := Pv (i + 1), ct := Pv (i + 1), bk := D.nx } ((σ'.set j1 (some (.int (k0 + (i : Nat))))).set j2 (some x)) (upd H' T (.tup [.int (k0 + (i : Nat)), x])))
    (hd : ∀ σ' H', Pv xs.length σ' H' → D.nx σ' H') :
    ∃ W : Nat → Nat → L2.St → Hp → Prop, (∃ m, W 0 m σ H) ∧ ∀ i m σ H, W i m σ H →
      (J.stop i H ∧ D.nx σ H) ∨ (J.go i H ∧ ∃ N : L2.St → Hp → Prop, (∀ σ' H', N σ' H' → ∃ m', m' < m ∧ W (i + 1) m' σ' H') ∧ ∀ x H', J.yld i H x H' → gTup K 2 (gCons (gName j1) (gCons (gName j2) gNil)) x σ H' fun σ2 H2 => tb { D with nx := N, ct := N, bk := D.nx } σ2 H2) := by
  refine for_it w Pv h0 hG (fun i x σ' H' H2 hi p y => ?_) hd
  obtain ⟨T, v, rfl, hT, rfl, hv⟩ := y
  exact ⟨T, _, rfl, .inl (.inl upd_same), rfl, _, _, rfl, _, _, rfl, rfl, hs i v σ' H' T hv p hT⟩
theorem one_le (x : V) : [x].length ≤ sizeLine := Nat.le_of_lt (small1000 (by show 1 ≤ 1000; decide))
theorem two_le (x y : V) : [x, y].length ≤ sizeLine := Nat.le_of_lt (small1000 (by show 2 ≤ 1000; decide))
theorem three_le (x y z : V) : [x, y, z].length ≤ sizeLine := Nat.le_of_lt (small1000 (by show 3 ≤ 1000; decide))
section
variable {P : Program} {w : World} {K : PySem.W.Frag} {mg : Str → Option Value} {base : Heap} {CT : Addr}
abbrev sCheckCover : Stmt := top 28
def spCheckCover : Sp := fun vs H Q _ => ∃ (n : Nat) (a : Addr) (cs : List L), vs = [.ref a, .int ((n : Nat) : Int)] ∧ H a = some (.lst (txs cs)) ∧ cs.length ≤ 40 ∧ (∀ c ∈ cs, Cb n c) ∧ n ≤ 4 ∧ ∀ H', Ex H H' → Q .non H'
theorem ok_check_cover {f : Addr} {fd : FuncData} (F : C8.Def K mg "check_cover" sCheckCover f fd) (b : Binds K fd ["cover", "n"] []) (T : Blt mg) (mp : ∃ t, mg "MOST_PRODUCTS" = some (.int 40 t)) (cC : C8.Cal P w K mg base 2 "is_cube" spIsCube []) : C8.Cal P w K mg base 3 "check_cover" spCheckCover [] := by
  have sc : FnScope ["cover", "n", "at", "cube"] ["cover", "n"] (C8.fnScope sCheckCover) := C8.fnScope_by (by decide +kernel)
  obtain ⟨tm, mp⟩ := mp
  refine C8.cal0 F b .nil sc (fun vs H Q E h => ?_) (fun cdv A outer s H vs Q E hr h => ?_)
  · obtain ⟨n, a, cs, rfl, _⟩ := h
    rfl
  · obtain ⟨n, a, cs, rfl, ha, h40, hcs, h4, k⟩ := h
    refine ⟨_, pss_cons (ps_if (PW.pt (pw_or (pt_not (pt_val (pe_callB isi_seq (by rfl) T.isi (by decide +kernel) (pa_cons (pv 0) (pa_cons (pe_tup (pa_cons (pe_bltn (v := .ty "list") (by rfl) T.lst (by decide +kernel) rfl) (pa_cons (pe_bltn (v := .ty "tuple") (by rfl) T.tup (by decide +kernel) rfl) pa_nil))) pa_nil)))))
        (pw_or1 (pt_cmpR op_gt (pe_callB call_len_seq (by rfl) T.len PySem.boot_len (pa_cons (pv 0) pa_nil)) (pe_glob (v := .int 40) (by rfl) mp ⟨_, rfl⟩) (nomark _)))))
      (pss_one ps_never) pss_nil)
      (pss_one (ps_for PassesOwn.never rfl (pi_enumL (by rfl) T.enu (pa_cons (pv 0) pa_nil)) (pg_tup rfl (pgs_cons (pg_name (i := 2) sc.nd rfl (.inl rfl)) (pgs_cons (pg_name (i := 3) sc.nd rfl (.inl rfl)) pgs_nil)))
        (pss_one (ps_if (pt_not (pt_val (C8.pe_c cC hr (by decide) (by rfl) (pa_cons (pv 3) (pa_cons (pv 1) pa_nil))))) (pss_one ps_never) pss_nil)))), ?_⟩
    refine ⟨_, rfl, two_le _ _, fun tp htp => ?_⟩
    have e0 := Ex.new (o := .tup [.ty "list", .ty "tuple"]) htp
    have ha0 := e0 _ _ ha
    refine ⟨a, _, tp, rfl, upd_same, ha0, true, rfl, iteF ?_⟩
    refine ⟨_, rfl, a, _, rfl, .inl (.inl (.inl ha0)), _, _, rfl, rfl, _, rfl, iteDF ?_ ?_⟩
    · unfold txs
      rw [List.length_map]
      omega
    refine ⟨_, rfl, a, _, rfl, .inl (.inl ha0), ?_⟩
    refine for_en (K := K) (walk_enL (K := K) (k0 := 0) (a := a) (xs := txs cs)) (fun i σ' H' => Ex H H' ∧ ∃ v w, σ' = [some (.ref a), some (.int ((n : Nat) : Int)), v, w]) ⟨e0, _, _, rfl⟩ (fun i σ' H' _ p => Evl.sq_of (p.1 _ _ ha)) ?_ ?_
    · rintro i x σ' H' T' hx ⟨e, v, w, rfl⟩ hT
      obtain ⟨c, hc, rfl⟩ := txs_at hx
      exact ⟨_, rfl, _, rfl, n, c, rfl, hcs c (List.mem_of_getElem? hc), h4, fun H2 e2 => ⟨true, rfl, iteF ⟨(e.trans (Ex.new hT)).trans e2, _, _, rfl⟩⟩⟩
    · rintro σ' H' ⟨e, v, w, rfl⟩
      exact k H' e
abbrev sCheckChanges : Stmt := top 31
def spCheckChanges (CT : Addr) : Sp := fun vs H Q _ => ∃ (n : Nat) (a l : Addr) (t : L) (cs : List Addr) (chs : List (L × L)), vs = [.ref a, .ref l] ∧ TabAt CT H a t n ∧ Tb n t ∧ H l = some (.lst (refs cs)) ∧ ChsAt H cs chs ∧ chs.length ≤ 8 ∧ (∀ ch ∈ chs, GoodCh n t ch) ∧ ∀ H', Ex H H' → Q .non H'
theorem ok_check_changes {f : Addr} {fd : FuncData} (TC : TabC K CT) (F : C8.Def K mg "check_changes" sCheckChanges f fd) (b : Binds K fd ["table", "changes"] []) (T : Blt mg) (mp : ∃ t, mg "MOST_CHANGES" = some (.int 8 t)) (cI : C8.Cal P w K mg base 3 "is_change" spIsChange []) (cP : C8.Cal P w K mg base 6 "is_plain" (spIsPlain CT) []) :
    C8.Cal P w K mg base 7 "check_changes" (spCheckChanges CT) [] := by
  have sc : FnScope ["table", "changes", "at", "change"] ["table", "changes"] (C8.fnScope sCheckChanges) := C8.fnScope_by (by decide +kernel)
  obtain ⟨tm, mp⟩ := mp
  refine C8.cal0 F b .nil sc (fun vs H Q E h => ?_) (fun cdv A outer s H vs Q E hr h => ?_)
  · obtain ⟨n, a, l, t, cs, chs, rfl, _⟩ := h
    rfl
  · obtain ⟨n, a, l, t, cs, chs, rfl, hT, ht, hl, hcs, h8, hg, k⟩ := h
    refine ⟨_, pss_cons (ps_if (PW.pt (pw_or (pt_not (pt_val (pe_callB isi_seq (by rfl) T.isi (by decide +kernel) (pa_cons (pv 1) (pa_cons (pe_tup (pa_cons (pe_bltn (v := .ty "list") (by rfl) T.lst (by decide +kernel) rfl) (pa_cons (pe_bltn (v := .ty "tuple") (by rfl) T.tup (by decide +kernel) rfl) pa_nil))) pa_nil)))))
        (pw_or1 (pt_cmpR op_gt (pe_callB call_len_seq (by rfl) T.len PySem.boot_len (pa_cons (pv 1) pa_nil)) (pe_glob (v := .int 8) (by rfl) mp ⟨_, rfl⟩) (nomark _)))))
      (pss_one ps_never) pss_nil)
      (pss_one (ps_for PassesOwn.never rfl (pi_enumL (by rfl) T.enu (pa_cons (pv 1) pa_nil)) (pg_tup rfl (pgs_cons (pg_name (i := 2) sc.nd rfl (.inl rfl)) (pgs_cons (pg_name (i := 3) sc.nd rfl (.inl rfl)) pgs_nil)))
        (pss_one (ps_if (PW.pt (pw_or (pt_not (pt_val (C8.pe_c cI hr (by decide) (by rfl) (pa_cons (pv 3) (pa_cons (pe_fld (pv 0) rfl) pa_nil)))))
          (pw_or1 (pt_not (pt_val (C8.pe_c cP hr (by decide) (by rfl) (pa_cons (pv 0) (pa_cons (pv 3) pa_nil)))))))) (pss_one ps_never) pss_nil)))), ?_⟩
    refine ⟨_, rfl, two_le _ _, fun tp htp => ?_⟩
    have e0 := Ex.new (o := .tup [.ty "list", .ty "tuple"]) htp
    have hl0 := e0 _ _ hl
    refine ⟨l, _, tp, rfl, upd_same, hl0, true, rfl, iteF ?_⟩
    refine ⟨_, rfl, l, _, rfl, .inl (.inl (.inl hl0)), _, _, rfl, rfl, _, rfl, iteDF ?_ ?_⟩
    · have := hcs.len
      unfold refs
      rw [List.length_map]
      omega
    refine ⟨_, rfl, l, _, rfl, .inl (.inl hl0), ?_⟩
    refine for_en (K := K) (walk_enL (K := K) (k0 := 0) (a := l) (xs := refs cs)) (fun i σ' H' => Ex H H' ∧ ∃ v w, σ' = [some (.ref a), some (.ref l), v, w]) ⟨e0, _, _, rfl⟩ (fun i σ' H' _ p => Evl.sq_of (p.1 _ _ hl)) ?_ ?_
    · rintro i x σ' H' T' hx ⟨e, v, w, rfl⟩ hT'
      obtain ⟨c, ch, rfl, hch, hc⟩ := hcs.get hx
      have g := hg ch (List.mem_of_getElem? hch)
      have e1 := e.trans (Ex.new (o := .tup [.int (0 + (i : Nat)), .ref c]) hT')
      obtain ⟨dx, hT1⟩ := hT.ex e1
      refine ⟨_, rfl, _, rfl, a, CT, dx, _, _, rfl, hT1, TC.cl, TC.n, tfs_n t n, n, c, ch, rfl, e1 _ _ hc, g.a, g.b, g.ne, ht.hi, fun H2 e2 => ⟨true, rfl, iteF ?_⟩⟩
      have e12 := e1.trans e2
      exact ⟨_, rfl, _, rfl, n, a, c, t, ch, rfl, hT.ex e12, ht, e12 _ _ hc, g, fun H3 e3 => ⟨true, rfl, iteF ⟨e12.trans e3, _, _, rfl⟩⟩⟩
    · rintro σ' H' ⟨e, v, w, rfl⟩
      exact k H' e
abbrev sTurnsOf : Stmt := top 32
def spTurnsOf (CT : Addr) : Sp := fun vs H Q _ => ∃ (n : Nat) (a l : Addr) (t : L) (cs : List Addr) (chs : List (L × L)), vs = [.ref a, .ref l] ∧ TabAt CT H a t n ∧ Tb n t ∧ H l = some (.tup (refs cs)) ∧ ChsAt H cs chs ∧ chs.length ≤ 8 ∧ (∀ ch ∈ chs, GoodCh n t ch) ∧ ∀ H' p, Ex H H' → Q (.ref p) H'
theorem ok_turns_of {f : Addr} {fd : FuncData} (F : C8.Def K mg "turns_of" sTurnsOf f fd) (b : Binds K fd ["table", "changes"] []) (T : Blt mg) (cT : C8.Cal P w K mg base 6 "turning" (spTurning CT) []) (cC : C8.Cal P w K mg base 5 "change_cube" spChangeCube []) :
    C8.Cal P w K mg base 7 "turns_of" (spTurnsOf CT) [] := by
  have sc : FnScope ["table", "changes", "turns", "number", "change", "end"] ["table", "changes"] (C8.fnScope sTurnsOf) := C8.fnScope_by (by decide +kernel)
  refine C8.cal0 F b .nil sc (fun vs H Q E h => ?_) (fun cdv A outer s H vs Q E hr h => ?_)
  · obtain ⟨n, a, l, t, cs, chs, rfl, _⟩ := h
    rfl
  · obtain ⟨n, a, l, t, cs, chs, rfl, hT, ht, hl, hcs, h8, hg, k⟩ := h
    refine ⟨_, pss_cons (ps_set (i := 2) sc.nd rfl (.inl rfl) (pe_lst pa_nil))
      (pss_cons (ps_for PassesOwn.never rfl (pi_enumT (by rfl) T.enu (pa_cons (pv 1) pa_nil)) (pg_tup rfl (pgs_cons (pg_name (i := 3) sc.nd rfl (.inl rfl)) (pgs_cons (pg_name (i := 4) sc.nd rfl (.inl rfl)) pgs_nil)))
        (pss_cons (ps_set (i := 5) sc.nd rfl (.inl rfl) (C8.pe_c cT hr (by decide) (by rfl) (pa_cons (pv 0) (pa_cons (pv 4) pa_nil))))
        (pss_one (ps_if (pt_cmpR op_notN (pv 5) pe_non (nomark _))
          (pss_one (ps_expr (pe_bm PySem.F.plainAttrs_list PySem.F.slot_list_append PySem.F.type_list_append mt_append (pv 2) (pa_cons (pe_tup (pa_cons (pv 3) (pa_cons (C8.pe_c cC hr (by decide) (by rfl) (pa_cons (pv 4) pa_nil)) (pa_cons (pv 5) pa_nil)))) pa_nil)))) pss_nil))))
      (pss_one (ps_ret (pv 2)))), ?_⟩
    refine ⟨Nat.zero_le _, fun p0 hp0 => ?_⟩
    refine ⟨_, rfl, l, _, rfl, .inl (.inl (Ex.new hp0 _ _ hl)), ?_⟩
    refine for_en (K := K) (walk_enT (K := K) (a := l) (xs := refs cs)) (fun i σ' H' => Ex H H' ∧ ∃ ys u v w, σ' = [some (.ref a), some (.ref l), some (.ref p0), u, v, w] ∧ H' p0 = some (.lst ys) ∧ ys.length ≤ i) ⟨Ex.new hp0, [], _, _, _, rfl, upd_same, Nat.le_refl _⟩ (fun i σ' H' _ p => Evl.st_of (p.1 _ _ hl)) ?_ ?_
    · rintro i x σ' H' T' hx ⟨e, ys, u, v, w, rfl, hy, hyl⟩ hT'
      obtain ⟨c, ch, rfl, hch, hc⟩ := hcs.get hx
      have hi8 : i < 8 := by
        have := (List.getElem?_eq_some_iff.mp hch).1
        omega
      have g := hg ch (List.mem_of_getElem? hch)
      have e01 := Ex.new (o := .tup [.int (0 + (i : Nat)), .ref c]) hT'
      have e1 := e.trans e01
      refine ⟨_, rfl, _, rfl, n, a, c, t, ch, rfl, hT.ex e1, ht, e1 _ _ hc, g, fun H2 v2 e2 hv2 => ?_⟩
      have e12 := e1.trans e2
      have hy2 : H2 p0 = some (.lst ys) := e2 _ _ (e01 _ _ hy)
      refine ⟨_, rfl, rfl, _, rfl, ite2 (fun _ => ?_) (fun _ => ⟨e12, ys, _, _, _, rfl, hy2, by omega⟩)⟩
      refine ⟨_, rfl, .inl ⟨rfl, _, .inl (.inl hy2)⟩, _, rfl, _, rfl, n, c, ch, rfl, e12 _ _ hc, g.a, g.b, g.ne, ht.lo, ht.hi, fun H3 e3 => ?_⟩
      refine ⟨_, rfl, three_le _ _ _, fun tp htp => ?_⟩
      have e4 := Ex.new (o := .tup [.int (0 + (i : Nat)), .str (S (span ch.1 ch.2)), v2]) htp
      refine ⟨p0, ys, _, rfl, rfl, e4 _ _ (e3 _ _ hy2), small1000 (by omega), ?_⟩
      exact ⟨Ex.mut ((e12.trans e3).trans e4) hp0, _, _, _, _, rfl, upd_same, by rw [List.length_append]; show ys.length + 1 ≤ _; omega⟩
    · rintro σ' H' ⟨e, ys, u, v, w, rfl, hy, hyl⟩
      exact ⟨_, rfl, k H' p0 e⟩
abbrev sTabInit : Stmt := inClass (top 37) 0
def spTabInit (CT : Addr) : Sp := fun vs H Q _ => ∃ (n : Nat) (p dx : Addr) (t : L), vs = [.ref p, .str (S t)] ∧ H p = some (.ins CT dx []) ∧ Tb n t ∧ ∀ H', (∀ b o, H b = some o → b ≠ p → H' b = some o) → TabAt CT H' p t n → Q .non H'
theorem ok_tab_init {f dS : Addr} {fd : FuncData} (TC : TabC K CT) (M : Mk K CT f) (hm : mg "Table" = some (.ref CT)) (F : C8.Fun K "__init__" "Table.__init__" sTabInit f fd) (b : Binds K fd ["self", "text"] []) (T : Blt mg) (gS : mg "SIZES" = some (.ref dS)) (SZ : SizesAt K dS) :
    C8.Mak P w K mg base 1 "Table" CT (spTabInit CT) [] := by
  have sc : FnScope ["self", "text", "sign"] ["self", "text"] (C8.fnScope sTabInit) := C8.fnScope_by (by decide +kernel)
  refine C8.mak0 M hm F b .nil sc (fun vs H Q E h => ?_) (fun cdv A outer s H vs Q E hr h => ?_)
  · obtain ⟨n, p, dx, t, rfl, _⟩ := h
    rfl
  · obtain ⟨n, p, dx, t, rfl, hp, ht, k⟩ := h
    refine ⟨_, pss_cons (ps_if (pt_not (pt_val (pe_callB isi_str (by rfl) T.isi (by decide +kernel) (pa_cons (pv 1) (pa_cons (pe_bltn (v := .ty "str") (by rfl) T.str (by decide +kernel) rfl) pa_nil))))) (pss_one ps_never) pss_nil)
      (pss_cons (ps_if (pt_cmpR (op_szNot SZ) (pe_callB call_len_str (by rfl) T.len PySem.boot_len (pa_cons (pv 1) pa_nil)) (pe_glob (v := .ref dS) (by rfl) gS rfl) rfl) (pss_one ps_never) pss_nil)
      (pss_cons (ps_for PassesOwn.never rfl (pi_str (pv 1)) (pg_name (i := 2) sc.nd rfl (.inl rfl))
        (pss_one (ps_if (pt_cmpR op_notIn_sign (pv 2) pe_str rfl) (pss_one ps_never) pss_nil)))
      (pss_cons (ps_fld (pv 0) (pv 1) rfl)
      (pss_one (ps_fld (pv 0) (pe_ix (ix_sz SZ) (pe_glob (v := .ref dS) (by rfl) gS rfl) (pe_callB call_len_str (by rfl) T.len PySem.boot_len (pa_cons (pv 1) pa_nil)) (fun _ _ => rfl)) rfl))))), ?_⟩
    have h16 := pow_le ht.hi
    have hlen : (S t).length = 2 ^ n := by rw [SX.S_len, ht.len]
    have hsz : (S t).length ≤ sizeLine := sz_S (by rw [ht.len]; omega)
    have hk : n = 1 ∨ n = 2 ∨ n = 3 ∨ n = 4 := by have := ht.lo; have := ht.hi; omega
    refine ⟨_, rfl, _, rfl, true, rfl, iteF ?_⟩
    refine ⟨_, rfl, _, rfl, hsz, 2 ^ n, by rw [hlen], rfl, ?_, _, rfl, iteF ?_⟩
    · rcases hk with rfl | rfl | rfl | rfl <;> decide
    refine s_forS (p := t) (Evl.ev_var rfl) (fun i σ' H' => Ex H H' ∧ ∃ v, σ' = [some (.ref p), some (.str (S t)), v]) (fun H1 e => ⟨e, _, rfl⟩) ?_ ?_
    · rintro i c σ' H' hi ⟨e, v, rfl⟩
      refine ⟨_, rfl, c, S [48, 49, 45], rfl, rfl, _, rfl, ?_⟩
      refine iteNS ?_ ⟨e, _, rfl⟩
      rcases ht.sg c (List.mem_of_getElem? hi) with rfl | rfl | rfl <;> decide
    · rintro σ' H' ⟨e, v, rfl⟩
      refine ⟨_, rfl, _, rfl, p, CT, dx, _, rfl, e _ _ hp, TC.cl, TC.text, by show 0 < 1000; decide, ?_⟩
      refine ⟨_, rfl, _, rfl, hsz, 2 ^ n, n, rfl, by rw [hlen], rfl, ht.lo, ht.hi, _, rfl, p, CT, dx, _, rfl, upd_same, TC.cl, TC.n, by show 1 < 1000; decide, ?_⟩
      refine k _ (fun b o hb hne => ?_) ⟨dx, upd_same⟩
      rw [upd_ne hne, upd_ne hne]
      exact e _ _ hb
end
end Sc

namespace Sc
open PySem L2
open Evl (Ex Ev)
theorem walk_txs {K : PySem.W.Frag} {a : Addr} {l : List L} : Walk (Itl K a) l.length (fun H => H a = some (.lst (txs l))) (fun i H x H' => H' = H ∧ ∃ r, l[i]? = some r ∧ x = .str (S r)) := by
  have e : (txs l).length = l.length := List.length_map ..
  have w := walk_list (K := K) (a := a) (xs := txs l)
  rw [e] at w
  exact w.mono (fun H h => Evl.sq_of h) fun i H x H' _ _ y => ⟨y.1, txs_at y.2⟩
/-- what a Demand holds: the table, the changes; steep and off_list of no matter -/
def dfs (tb tp st ol : Addr) : List (Str × V) := putF "off_list" (.ref ol) (putF "steep" (.ref st) (putF "changes" (.ref tp) (putF "table" (.ref tb) [])))
theorem dfs_table (tb tp st ol : Addr) : (dfs tb tp st ol).lookup ("table" : Str) = some (.ref tb) := by
  unfold dfs
  rw [lookup_putF, if_neg (by decide +kernel), lookup_putF, if_neg (by decide +kernel), lookup_putF, if_neg (by decide +kernel), lookup_putF, if_pos rfl]
theorem dfs_changes (tb tp st ol : Addr) : (dfs tb tp st ol).lookup ("changes" : Str) = some (.ref tp) := by
  unfold dfs
  rw [lookup_putF, if_neg (by decide +kernel), lookup_putF, if_neg (by decide +kernel), lookup_putF, if_pos rfl]
/-- a demand of the table t and the changes chs stands at a -/
def DemAt (CT CD : Addr) (H : Hp) (a : Addr) (t : L) (n : Nat) (chs : List (L × L)) : Prop :=
  ∃ dx tb tp st ol cs, H a = some (.ins CD dx (dfs tb tp st ol)) ∧ TabAt CT H tb t n ∧ H tp = some (.tup (refs cs)) ∧ ChsAt H cs chs
theorem DemAt.ex {CT CD : Addr} {H H' : Hp} {a : Addr} {t : L} {n : Nat} {chs : List (L × L)} (h : DemAt CT CD H a t n chs) (e : Ex H H') : DemAt CT CD H' a t n chs := by
  obtain ⟨dx, tb, tp, st, ol, cs, h1, h2, h3, h4⟩ := h
  exact ⟨dx, tb, tp, st, ol, cs, e _ _ h1, h2.ex e, e _ _ h3, h4.ex e⟩
structure DemC (K : PySem.W.Frag) (CD : Addr) : Prop where
  cl : Cls K CD
  table : NoAttr K CD "table"
  changes : NoAttr K CD "changes"
  steep : NoAttr K CD "steep"
  off : NoAttr K CD "off_list"
/-- equal data of the changes -/
def chD (chs : List (L × L)) : List PyData := chs.map fun ch => .tuple [.str (S ch.1), .str (S ch.2)]
theorem dp_strs {K : PySem.W.Frag} {H : Hp} : ∀ (l : List L), DpAll K H (txs l) (l.map fun r => PyData.str (S r))
  | [] => .nil
  | r :: l => .cons (.str _) (dp_strs l)
theorem dp_chs {K : PySem.W.Frag} {H : Hp} : ∀ {cs : List Addr} {chs : List (L × L)}, ChsAt H cs chs → DpAll K H (refs cs) (chD chs)
  | [], [], _ => .nil
  | [], _ :: _, h => by cases h.len
  | _ :: _, [], h => by cases h.len
  | c :: cs, ch :: chs, h => by
    refine .cons (.tup (.inl (.inl (h.at_ 0 c ch rfl rfl))) (.cons (.str _) (.cons (.str _) .nil))) (dp_chs ⟨by have := h.len; simpa using this, fun i x y h1 h2 => h.at_ (i + 1) x y (by simpa using h1) (by simpa using h2)⟩)
theorem strOk_of {l : L} (h : ∀ c ∈ l, Sgn c) : PyData.strOk (S l) = true := by
  show (S l).cps.all (fun x => decide (x < 1114112)) = true
  rw [← Array.all_toList, List.all_eq_true]
  intro c hc
  have := h c (by simpa using hc)
  rcases this with rfl | rfl | rfl <;> decide
theorem lay_strs : ∀ {cs : List L}, (∀ c ∈ cs, ∀ x ∈ c, Sgn x) → PyData.canLayAll0 (cs.map fun r => PyData.str (S r)) = true ∧ PyData.depthAll (cs.map fun r => PyData.str (S r)) ≤ 1
  | [], _ => ⟨by simp [PyData.canLayAll0], by simp [PyData.depthAll]⟩
  | c :: cs, h => by
    obtain ⟨h1, h2⟩ := lay_strs (cs := cs) fun x hx => h x (List.mem_cons_of_mem _ hx)
    refine ⟨?_, ?_⟩
    · simp only [List.map_cons, PyData.canLayAll0, PyData.canLay0, Bool.and_eq_true]
      exact ⟨strOk_of (h c List.mem_cons_self), h1⟩
    · simp only [List.map_cons, PyData.depthAll, PyData.depth]
      omega
theorem shaped_strs {cs : List L} (h : ∀ c ∈ cs, ∀ x ∈ c, Sgn x) : SeqAt.shaped (.list (cs.map fun r => PyData.str (S r))) = true := by
  obtain ⟨h1, h2⟩ := lay_strs h
  unfold SeqAt.shaped
  rw [Bool.and_eq_true]
  exact ⟨by simp only [PyData.canLay0]; exact h1, decide_eq_true (by simp only [PyData.depth]; omega)⟩
theorem lay_chs : ∀ {chs : List (L × L)}, (∀ ch ∈ chs, (∀ x ∈ ch.1, Sgn x) ∧ ∀ x ∈ ch.2, Sgn x) → PyData.canLayAll0 (chD chs) = true ∧ PyData.depthAll (chD chs) ≤ 2
  | [], _ => ⟨by simp [chD, PyData.canLayAll0], by simp [chD, PyData.depthAll]⟩
  | c :: cs, h => by
    obtain ⟨h1, h2⟩ := lay_chs (chs := cs) fun x hx => h x (List.mem_cons_of_mem _ hx)
    unfold chD at h1 h2 ⊢
    refine ⟨?_, ?_⟩
    · simp only [List.map_cons, PyData.canLayAll0, PyData.canLay0, Bool.and_eq_true]
      exact ⟨⟨strOk_of (h c List.mem_cons_self).1, strOk_of (h c List.mem_cons_self).2, trivial⟩, h1⟩
    · simp only [List.map_cons, PyData.depthAll, PyData.depth]
      omega
theorem shaped_chs {chs : List (L × L)} (h : ∀ ch ∈ chs, (∀ x ∈ ch.1, Sgn x) ∧ ∀ x ∈ ch.2, Sgn x) : SeqAt.shaped (.tuple (chD chs)) = true := by
  obtain ⟨h1, h2⟩ := lay_chs h
  unfold SeqAt.shaped
  rw [Bool.and_eq_true]
  exact ⟨by simp only [PyData.canLay0]; exact h1, decide_eq_true (by simp only [PyData.depth]; omega)⟩
theorem good_sgn {n : Nat} {t : L} {chs : List (L × L)} (h : ∀ ch ∈ chs, GoodCh n t ch) : ∀ ch ∈ chs, (∀ x ∈ ch.1, Sgn x) ∧ ∀ x ∈ ch.2, Sgn x := fun ch hc => ⟨(h ch hc).a.cb.sg, (h ch hc).b.cb.sg⟩
theorem putF_len (k : Str) (v : V) : ∀ fs : List (Str × V), (putF k v fs).length ≤ fs.length + 1
  | [] => Nat.le_refl _
  | (n, u) :: fs => by
    have ih := putF_len k v fs
    show (if n = k then (n, v) :: fs else (n, u) :: putF k v fs).length ≤ _
    split
    · exact Nat.le_succ _
    · rw [List.length_cons, List.length_cons]
      omega
theorem tfs_ne (t : L) (n : Nat) : tfs t n ≠ [] := fun e => by
  have := tfs_n t n
  rw [e] at this
  cases this
section
variable {P : Program} {w : World} {K : PySem.W.Frag} {mg : Str → Option Value} {base : Heap} {CT CD : Addr}
abbrev sPointsWith : Stmt := inClass (top 37) 5
def spPointsWith (CT : Addr) : Sp := fun vs H Q _ => ∃ (n : Nat) (a : Addr) (t : L) (c : Nat), vs = [.ref a, .str (S [c])] ∧ TabAt CT H a t n ∧ Tb n t ∧ ∀ H' p, Ex H H' → Q (.ref p) H'
theorem ok_points_with {f : Addr} {fd : FuncData} (TC : TabC K CT) (me : Meth K CT "points_with" f) (F : C8.Fun K "points_with" "Table.points_with" sPointsWith f fd) (b : Binds K fd ["self", "sign"] []) (cF : C8.Cal P w K mg base 1 "filled" spFilled []) (cS : C8.Met P w K mg base 1 CT "sign_at" (spSignAt CT) []) :
    C8.Met P w K mg base 2 CT "points_with" (spPointsWith CT) [] := by
  have sc : FnScope ["self", "sign", "point"] ["self", "sign"] (C8.fnScope sPointsWith) := C8.fnScope_by (by decide +kernel)
  refine C8.met0 TC.cl me F b sc (fun vs H Q E h => ?_) (fun cdv A outer s H vs Q E hr h => ?_)
  · obtain ⟨n, a, t, c, rfl, _⟩ := h
    rfl
  · obtain ⟨n, a, t, c, rfl, hT, ht, k⟩ := h
    refine ⟨_, pss_one (ps_ret (pe_lc (own := [("point", 2)]) (g := gName 2) rfl sc.nd (pi_list (C8.pe_c cF hr (by decide) (by rfl) (pa_cons (pe_op op_repC pe_str (pe_fld (pv 0) rfl)) (pa_cons pe_str pa_nil)))) (blkOk_by (N := ["self", "sign", "point"]) (sc := C8.fnScope sPointsWith) (by decide +kernel))
      (fun _ _ _ _ _ => pg_name (i := 2) sc.nd rfl (Or.inl rfl)) (fun _ _ _ _ _ => pts_one (pt_cmpR op_eq (C8.pe_mt cS hr (by decide) (pv 0) (pa_cons (pv 2) pa_nil)) (pv 1) (nomark _))) (fun _ _ _ _ _ => pv 2))), ?_⟩
    obtain ⟨dx, hT0⟩ := id hT
    have hc : Cb n (List.replicate n 45) := ⟨List.length_replicate, fun x hx => .inl (List.eq_of_mem_replicate hx)⟩
    refine ⟨_, rfl, a, CT, dx, _, _, rfl, hT0, TC.cl, TC.n, tfs_n t n, 45, n, rfl, rfl, by have := ht.hi; omega, n, List.replicate n 45, rfl, hc, ht.hi, fun H1 p1 e1 hp1 h1 => ⟨p1, rfl, ⟨_, Evl.sq_of h1⟩, fun D hD => ?_⟩⟩
    refine lc_ex (pts (List.replicate n 45)) (walk_txs (K := K) (a := p1)) (fun r => if val t r = c then some (.str (S r)) else none) hD (by have := pts_len (c := List.replicate n 45) (n := n) List.length_replicate ht.hi; omega) (fun H e => e _ _ h1) (fun i r x H2 H3 Kn Nn hr2 e y hk hn => ?_) (fun H2 e2 hl => ?_)
    · obtain ⟨rfl, r', hr', rfl⟩ := y
      rw [hr2] at hr'
      obtain rfl := Option.some.inj hr'
      have hm : r ∈ pts (List.replicate n 45) := List.mem_of_getElem? hr2
      have hpt : Pt n r := pts_pt hc hm
      have e2 := e1.trans e
      obtain ⟨dy, hT2⟩ := hT.ex e2
      refine ⟨rfl, _, rfl, a, dy, _, rfl, hT2, tfs_no t n (by decide +kernel) (by decide +kernel), _, rfl, n, a, t, r, rfl, hT.ex e2, ht, hpt, fun H4 e4 => ⟨_, rfl, rfl, _, rfl, ?_⟩⟩
      rw [vs1_inj]
      by_cases hv : val t r = c
      · exact iteD hv ⟨_, rfl, hk _ H4 (by rw [if_pos hv]) e4⟩
      · exact iteDF hv (hn H4 (by rw [if_neg hv]) e4)
    · exact k H2 D (e1.trans e2)
abbrev sOffs : Stmt := inClass (top 37) 7
def spOffs (CT : Addr) : Sp := fun vs H Q _ => ∃ (n : Nat) (a : Addr) (t : L), vs = [.ref a] ∧ TabAt CT H a t n ∧ Tb n t ∧ ∀ H' p, Ex H H' → Q (.ref p) H'
theorem ok_offs {f : Addr} {fd : FuncData} (TC : TabC K CT) (me : Meth K CT "offs" f) (F : C8.Fun K "offs" "Table.offs" sOffs f fd) (b : Binds K fd ["self"] []) (cP : C8.Met P w K mg base 2 CT "points_with" (spPointsWith CT) []) :
    C8.Met P w K mg base 3 CT "offs" (spOffs CT) [] := by
  have sc : FnScope ["self"] ["self"] (C8.fnScope sOffs) := C8.fnScope_by (by decide +kernel)
  refine C8.met0 TC.cl me F b sc (fun vs H Q E h => ?_) (fun cdv A outer s H vs Q E hr h => ?_)
  · obtain ⟨n, a, t, rfl, _⟩ := h
    rfl
  · obtain ⟨n, a, t, rfl, hT, ht, k⟩ := h
    refine ⟨_, pss_one (ps_ret (C8.pe_mt cP hr (by decide) (pv 0) (pa_cons pe_str pa_nil))), ?_⟩
    obtain ⟨dx, hT0⟩ := id hT
    exact ⟨_, rfl, a, dx, _, rfl, hT0, tfs_no t n (by decide +kernel) (by decide +kernel), n, a, t, 48, rfl, hT, ht, k⟩
abbrev sTabEq : Stmt := inClass (top 37) 2
def spTabEq (CT : Addr) : Sp := fun vs H Q _ => ∃ (n : Nat) (a b : Addr) (t : L), vs = [.ref a, .ref b] ∧ TabAt CT H a t n ∧ TabAt CT H b t n ∧ ∀ H', Ex H H' → Q (.bl true) H'
theorem ok_tab_eq {f : Addr} {fd : FuncData} (TC : TabC K CT) (TI : C8.InsC K CT) (hm : mg "Table" = some (.ref CT)) (F : C8.Fun K "__eq__" "Table.__eq__" sTabEq f fd) (T : Blt mg) : FnOk P w K mg base C8.CX0 1 f fd ["self", "other"] (spTabEq CT) := by
  have sc : FnScope ["self", "other"] ["self", "other"] (C8.fnScope sTabEq) := C8.fnScope_by (by decide +kernel)
  refine C8.fn0 F sc (fun vs H Q E h => ?_) (fun cdv A outer s H vs Q E hr h => ?_)
  · obtain ⟨n, a, b, t, rfl, _⟩ := h
    rfl
  · obtain ⟨n, a, b, t, rfl, ⟨dx, h1⟩, ⟨dy, h2⟩, k⟩ := h
    refine ⟨_, pss_one (ps_ret (pe_and (pe_callB (C8.call_isC TI) (by rfl) T.isi (by decide +kernel) (pa_cons (pv 1) (pa_cons (pe_glob (v := .ref CT) (by rfl) hm rfl) pa_nil)))
      (pe_one (pe_cmpR op_eq (pe_fld (pv 0) rfl) (pe_fld (pv 1) rfl) (nomark _))))), ?_⟩
    refine ⟨_, rfl, b, dy, _, rfl, h2, true, rfl, iteT ?_⟩
    refine ⟨_, rfl, a, CT, dx, _, _, rfl, h1, TC.cl, TC.text, tfs_text t n, _, rfl, b, CT, dy, _, _, rfl, h2, TC.cl, TC.text, tfs_text t n, rfl, ?_⟩
    rw [decide_eq_true rfl]
    exact k H (Ex.refl H)
abbrev sDemInit : Stmt := inClass (top 33) 0
def spDemInit (CT CD : Addr) : Sp := fun vs H Q _ => ∃ (n : Nat) (p dx a l : Addr) (t : L) (cs : List Addr) (chs : List (L × L)), vs = [.ref p, .ref a, .ref l] ∧ H p = some (.ins CD dx []) ∧ TabAt CT H a t n ∧ Tb n t ∧ H l = some (.lst (refs cs)) ∧ ChsAt H cs chs ∧ chs.length ≤ 8 ∧
  (∀ ch ∈ chs, GoodCh n t ch) ∧ ∀ H', (∀ b o, H b = some o → b ≠ p → H' b = some o) → DemAt CT CD H' p t n chs → Q .non H'
theorem ok_dem_init {f : Addr} {fd : FuncData} (DC : DemC K CD) (M : Mk K CD f) (hm : mg "Demand" = some (.ref CD)) (F : C8.Fun K "__init__" "Demand.__init__" sDemInit f fd) (b : Binds K fd ["self", "table", "changes"] []) (T : Blt mg)
    (cC : C8.Cal P w K mg base 7 "check_changes" (spCheckChanges CT) []) (cT : C8.Cal P w K mg base 7 "turns_of" (spTurnsOf CT) []) (cO : C8.Met P w K mg base 3 CT "offs" (spOffs CT) []) : C8.Mak P w K mg base 8 "Demand" CD (spDemInit CT CD) [] := by
  have sc : FnScope ["self", "table", "changes"] ["self", "table", "changes"] (C8.fnScope sDemInit) := C8.fnScope_by (by decide +kernel)
  refine C8.mak0 M hm F b .nil sc (fun vs H Q E h => ?_) (fun cdv A outer s H vs Q E hr h => ?_)
  · obtain ⟨n, p, dx, a, l, t, cs, chs, rfl, _⟩ := h
    rfl
  · obtain ⟨n, p, dx, a, l, t, cs, chs, rfl, hp, hT, ht, hl, hcs, h8, hg, k⟩ := h
    refine ⟨_, pss_cons (ps_expr (C8.pe_c cC hr (by decide) (by rfl) (pa_cons (pv 1) (pa_cons (pv 2) pa_nil))))
      (pss_cons (ps_fld (pv 0) (pv 1) rfl)
      (pss_cons (ps_fld (pv 0) (pe_callTy call_tuple_of (by rfl) T.tup (by decide +kernel) (pa_cons (pv 2) pa_nil)) rfl)
      (pss_cons (ps_fld (pv 0) (C8.pe_c cT hr (by decide) (by rfl) (pa_cons (pv 1) (pa_cons (pe_fld (pv 0) rfl) pa_nil))) rfl)
      (pss_one (ps_fld (pv 0) (C8.pe_mt0 cO hr (by decide) (pv 1)) rfl))))), ?_⟩
    obtain ⟨da, hT0⟩ := id hT
    have nap : a ≠ p := ne_of hT0 hp (by intro z; injection z with _ _ z; exact tfs_ne t n z)
    have nlp : l ≠ p := ne_of hl hp (by intro z; cases z)
    have ncp : ∀ (H' : Hp) (i : Nat) (c : Addr) (ch : L × L) (o : HO), ChAt H' c ch → H' p = some (.ins CD dx []) → c ≠ p := fun H' i c ch o h1 h2 => ne_of h1 h2 (by intro z; cases z)
    refine ⟨_, rfl, _, rfl, n, a, l, t, cs, chs, rfl, hT, ht, hl, hcs, h8, hg, fun H1 e1 => ?_⟩
    have hp1 := e1 _ _ hp
    -- self.table = table
    refine ⟨_, rfl, _, rfl, p, CD, dx, _, rfl, hp1, DC.cl, DC.table, by show 0 < 1000; decide, ?_⟩
    -- self.changes = tuple(changes)
    have k12 : ∀ (o : HO) (b : Addr) (u : HO), H1 b = some u → b ≠ p → upd H1 p o b = some u := fun o b u hb hne => by
      rw [upd_ne hne]
      exact hb
    refine ⟨_, rfl, l, _, rfl, .inl ⟨.inl (.inl (k12 _ l _ (e1 _ _ hl) nlp)), fun tp htp => ?_⟩⟩
    have ntp : tp ≠ p := fun z => by
      rw [z, upd_same] at htp
      cases htp
    refine ⟨_, rfl, p, CD, dx, _, rfl, by rw [upd_ne ntp.symm, upd_same], DC.cl, DC.changes, by show 1 < 1000; decide, ?_⟩
    -- the heap now: all of H1 but p, the tuple at tp, p
    generalize hH4 : upd (upd (upd H1 p (.ins CD dx (putF "table" (.ref a) []))) tp (.tup (refs cs))) p (.ins CD dx (putF "changes" (.ref tp) (putF "table" (.ref a) []))) = H4
    have p4 : H4 p = some (.ins CD dx (putF "changes" (.ref tp) (putF "table" (.ref a) []))) := by rw [← hH4, upd_same]
    have t4 : H4 tp = some (.tup (refs cs)) := by rw [← hH4, upd_ne ntp, upd_same]
    have k4 : ∀ b o, H1 b = some o → b ≠ p → H4 b = some o := fun b o hb hne => by
      have hbt : b ≠ tp := fun z => by
        rw [upd_ne ntp, ← z, hb] at htp
        cases htp
      rw [← hH4, upd_ne hne, upd_ne hbt, upd_ne hne]
      exact hb
    clear hH4 htp k12
    have kH4 : ∀ b o, H b = some o → b ≠ p → H4 b = some o := fun b o hb => k4 b o (e1 b o hb)
    have hT4 : TabAt CT H4 a t n := ⟨da, kH4 _ _ hT0 nap⟩
    have hc4 : ChsAt H4 cs chs := ⟨hcs.len, fun i c ch h1 h2 => kH4 _ _ (hcs.at_ i c ch h1 h2) (ne_of (hcs.at_ i c ch h1 h2) hp (by intro z; cases z))⟩
    -- self.steep = turns_of(table, self.changes)
    have lk1 : (putF "changes" (V.ref tp) (putF "table" (V.ref a) [])).lookup ("changes" : Str) = some (.ref tp) := by rw [lookup_putF, if_pos rfl]
    refine ⟨_, rfl, _, rfl, p, CD, dx, _, _, rfl, p4, DC.cl, DC.changes, lk1, n, a, tp, t, cs, chs, rfl, hT4, ht, t4, hc4, h8, hg, fun H5 st e5 => ?_⟩
    have l2 : (putF "changes" (V.ref tp) (putF "table" (V.ref a) [])).length ≤ 2 := putF_len _ _ _
    refine ⟨_, rfl, p, CD, dx, _, rfl, e5 _ _ p4, DC.cl, DC.steep, by omega, ?_⟩
    -- self.off_list = table.offs()
    have k6 : ∀ (o : HO) (b : Addr) (u : HO), H4 b = some u → b ≠ p → upd H5 p o b = some u := fun o b u hb hne => by
      rw [upd_ne hne]
      exact e5 _ _ hb
    refine ⟨_, rfl, a, da, _, rfl, k6 _ _ _ (kH4 _ _ hT0 nap) nap, tfs_no t n (by decide +kernel) (by decide +kernel), n, a, t, rfl, ⟨da, k6 _ _ _ (kH4 _ _ hT0 nap) nap⟩, ht, fun H7 ol e7 => ?_⟩
    have l3 := putF_len "steep" (V.ref st) (putF "changes" (V.ref tp) (putF "table" (V.ref a) []))
    refine ⟨_, rfl, p, CD, dx, _, rfl, e7 _ _ upd_same, DC.cl, DC.off, by omega, ?_⟩
    have kk : ∀ (b : Addr) (u : HO), H4 b = some u → b ≠ p → upd H7 p (.ins CD dx (dfs a tp st ol)) b = some u := fun b u hb hne => by
      rw [upd_ne hne]
      exact e7 _ _ (k6 _ _ _ hb hne)
    exact k _ (fun b o hb hne => kk _ _ (kH4 b o hb hne) hne) ⟨dx, a, tp, st, ol, cs, upd_same, ⟨da, kk _ _ (kH4 _ _ hT0 nap) nap⟩, kk _ _ t4 ntp, ⟨hcs.len, fun i c ch h1 h2 => kk _ _ (hc4.at_ i c ch h1 h2) (ne_of (hcs.at_ i c ch h1 h2) hp (by intro z; cases z))⟩⟩
abbrev sDemLen : Stmt := inClass (top 33) 1
def spDemLen (CT CD : Addr) : Sp := fun vs H Q _ => ∃ (n : Nat) (a : Addr) (t : L) (chs : List (L × L)), vs = [.ref a] ∧ DemAt CT CD H a t n chs ∧ ∀ H', Ex H H' → Q (.int ((chs.length : Nat) : Int)) H'
theorem ok_dem_len {f : Addr} {fd : FuncData} (DC : DemC K CD) (F : C8.Fun K "__len__" "Demand.__len__" sDemLen f fd) (T : Blt mg) : FnOk P w K mg base C8.CX0 1 f fd ["self"] (spDemLen CT CD) := by
  have sc : FnScope ["self"] ["self"] (C8.fnScope sDemLen) := C8.fnScope_by (by decide +kernel)
  refine C8.fn0 F sc (fun vs H Q E h => ?_) (fun cdv A outer s H vs Q E hr h => ?_)
  · obtain ⟨n, a, t, chs, rfl, _⟩ := h
    rfl
  · obtain ⟨n, a, t, chs, rfl, ⟨dx, tb, tp, st, ol, cs, h1, h2, h3, h4⟩, k⟩ := h
    refine ⟨_, pss_one (ps_ret (pe_callB call_len_seq (by rfl) T.len PySem.boot_len (pa_cons (pe_fld (pv 0) rfl) pa_nil))), ?_⟩
    refine ⟨_, rfl, a, CD, dx, _, _, rfl, h1, DC.cl, DC.changes, dfs_changes tb tp st ol, tp, _, rfl, .inr (.inl (.inl h3)), ?_⟩
    have e : (refs cs).length = chs.length := (List.length_map ..).trans h4.len
    rw [e]
    exact k H (Ex.refl H)
abbrev sDemEq : Stmt := inClass (top 33) 5
def spDemEq (CT CD : Addr) : Sp := fun vs H Q _ => ∃ (n : Nat) (a b : Addr) (t : L) (chs : List (L × L)), vs = [.ref a, .ref b] ∧ DemAt CT CD H a t n chs ∧ DemAt CT CD H b t n chs ∧ (∀ ch ∈ chs, GoodCh n t ch) ∧ ∀ H', Ex H H' → Q (.bl true) H'
theorem ok_dem_eq {f g : Addr} {fd gd : FuncData} (DC : DemC K CD) (DI : C8.InsC K CD) (hm : mg "Demand" = some (.ref CD)) (F : C8.Fun K "__eq__" "Demand.__eq__" sDemEq f fd) (T : Blt mg)
    (sE : Spec1 K CT "__eq__" g) (nf : PySem.W.notFirst K CT (.ref CT) = true) (G : FnOk P w K mg base C8.CX0 1 g gd ["self", "other"] (spTabEq CT)) (bG : Binds K gd ["self", "other"] []) : FnOk P w K mg base C8.CX0 2 f fd ["self", "other"] (spDemEq CT CD) := by
  have sc : FnScope ["self", "other"] ["self", "other"] (C8.fnScope sDemEq) := C8.fnScope_by (by decide +kernel)
  refine C8.fn0 F sc (fun vs H Q E h => ?_) (fun cdv A outer s H vs Q E hr h => ?_)
  · obtain ⟨n, a, b, t, chs, rfl, _⟩ := h
    rfl
  · obtain ⟨n, a, b, t, chs, rfl, ⟨dx, tb, tp, st, ol, cs, h1, ⟨dt, h2⟩, h3, h4⟩, ⟨dy, tb', tp', st', ol', cs', g1, ⟨dt', g2⟩, g3, g4⟩, hg, k⟩ := h
    have hu : (A.deeper (PyProof.Rows.envOfC "Demand.__eq__" (C8.fnScope sDemEq) s.heap.objs.size f cdv)).units + 64 < cLine := hr.units
    refine ⟨_, pss_one (ps_ret (pe_and (pe_callB (C8.call_isC DI) (by rfl) T.isi (by decide +kernel) (pa_cons (pv 1) (pa_cons (pe_glob (v := .ref CD) (by rfl) hm rfl) pa_nil)))
      (pe_and (pe_cmpR (op_eqOwn sE nf G bG hr) (pe_fld (pv 0) rfl) (pe_fld (pv 1) rfl) (nomark _))
      (pe_one (pe_cmpR (op_eqD hu) (pe_fld (pv 0) rfl) (pe_fld (pv 1) rfl) (nomark _)))))), ?_⟩
    refine ⟨_, rfl, b, dy, _, rfl, g1, true, rfl, iteT ?_⟩
    refine ⟨_, rfl, a, CD, dx, _, _, rfl, h1, DC.cl, DC.table, dfs_table tb tp st ol, _, rfl, b, CD, dy, _, _, rfl, g1, DC.cl, DC.table, dfs_table tb' tp' st' ol', tb, dt, _, tb', dt', _, rfl, rfl, h2, g2, n, tb, tb', t, rfl, ⟨dt, h2⟩, ⟨dt', g2⟩, fun H1 e1 => ⟨true, rfl, iteT ?_⟩⟩
    refine ⟨_, rfl, a, CD, dx, _, _, rfl, e1 _ _ h1, DC.cl, DC.changes, dfs_changes tb tp st ol, _, rfl, b, CD, dy, _, _, rfl, e1 _ _ g1, DC.cl, DC.changes, dfs_changes tb' tp' st' ol', .tuple (chD chs), .tuple (chD chs), .tup (.inl (.inl (e1 _ _ h3))) (dp_chs (h4.ex e1)), .tup (.inl (.inl (e1 _ _ g3))) (dp_chs (g4.ex e1)), shaped_chs (good_sgn hg), shaped_chs (good_sgn hg), ?_⟩
    rw [SeqAt.eqv_refl _ (SeqAt.canLay_of_shaped (shaped_chs (good_sgn hg)))]
    exact k H1 e1
end
end Sc

namespace Sc
open PySem L2
open Evl (Ex Ev)
/-- a cover as a value: None, or a list of its cubes -/
def CovAt (H : Hp) (v : V) : Option (List L) → Prop
  | none => v = .non
  | some cs => ∃ a, v = .ref a ∧ H a = some (.lst (txs cs))
theorem CovAt.ex {H H' : Hp} {v : V} {cov : Option (List L)} (h : CovAt H v cov) (e : Ex H H') : CovAt H' v cov := by
  cases cov with
  | none => exact h
  | some cs =>
    obtain ⟨a, h1, h2⟩ := h
    exact ⟨a, h1, e _ _ h2⟩
theorem walk_chs {K : PySem.W.Frag} {tp : Addr} {cs : List Addr} {chs : List (L × L)} (he : cs.length = chs.length) : Walk (Itt K tp) chs.length (fun H => H tp = some (.tup (refs cs)) ∧ ChsAt H cs chs) (fun i H x H' => H' = H ∧ ∃ c ch, x = .ref c ∧ chs[i]? = some ch ∧ ChAt H c ch) := by
  have e : (refs cs).length = chs.length := (List.length_map ..).trans he
  have w := walk_tup (K := K) (a := tp) (xs := refs cs)
  rw [e] at w
  exact w.mono (fun H h => Evl.st_of h.1) fun i H x H' _ h y => ⟨y.1, h.2.get y.2⟩
theorem walk_lchs {K : PySem.W.Frag} {l : Addr} {cs : List Addr} {chs : List (L × L)} (he : cs.length = chs.length) : Walk (Itl K l) chs.length (fun H => H l = some (.lst (refs cs)) ∧ ChsAt H cs chs) (fun i H x H' => H' = H ∧ ∃ c ch, x = .ref c ∧ chs[i]? = some ch ∧ ChAt H c ch) := by
  have e : (refs cs).length = chs.length := (List.length_map ..).trans he
  have w := walk_list (K := K) (a := l) (xs := refs cs)
  rw [e] at w
  exact w.mono (fun H h => Evl.sq_of h.1) fun i H x H' _ h y => ⟨y.1, h.2.get y.2⟩
theorem txs_app (a b : List L) : txs a ++ txs b = txs (a ++ b) := by
  unfold txs
  rw [List.map_append]
theorem txs_len (a : List L) : (txs a).length = a.length := List.length_map ..
theorem fm_txs {α : Type} (f : α → L) (l : List α) : (l.filterMap fun a => some (V.str (S (f a)))) = txs (l.map f) := by
  rw [fm_map]
  unfold txs
  rw [List.map_map]
  rfl
theorem txs_map (l : List L) : txs l = (l.map S).map V.str := by
  unfold txs
  rw [List.map_map]
  rfl
theorem sum_le : ∀ (l : List L), (∀ x ∈ l, x.length ≤ 30) → (l.map (fun x => x.length)).sum ≤ 30 * l.length
  | [], _ => Nat.le_refl _
  | a :: r, h => by
    have ih := sum_le r fun x hx => h x (List.mem_cons_of_mem _ hx)
    have ha := h a List.mem_cons_self
    rw [List.map_cons, List.sum_cons, List.length_cons]
    omega
def tJoin (ts : List TE) : TE := fun σ H Q => tJs ts Str.empty σ H fun out H1 => Q (.str out) H1
theorem pe_joinT {X : Cx} {v1 v2 : Expr} {rest : List Expr} {ts : List TE} {pos : Pos} (h : PJ X (v1 :: v2 :: rest) ts) : PE X (.JoinedStr (v1 :: v2 :: rest) pos) (tJoin ts) := pe_joined h
theorem cat_S {a b : L} {s : Str} (h : s = S a) : s ++ S b = S (a ++ b) := by rw [h, SX.S_cat]
section
variable {P : Program} {w : World} {K : PySem.W.Frag} {mg : Str → Option Value} {base : Heap} {CT CD : Addr}
abbrev sWrite : Stmt := top 39
def spWrite (CT CD : Addr) : Sp := fun vs H Q _ => ∃ (n : Nat) (d : Addr) (v : V) (t : L) (chs : List (L × L)) (cov : Option (List L)), vs = [.ref d, v] ∧ DemAt CT CD H d t n chs ∧ CovAt H v cov ∧ GoodSheet n t chs cov ∧ ∀ H', Ex H H' → Q (.str (S (sheet t chs cov))) H'
theorem ok_write {f : Addr} {fd : FuncData} (TC : TabC K CT) (DC : DemC K CD) (F : C8.Def K mg "write_sheet" sWrite f fd) (b : Binds K fd ["demand", "cover"] []) (cC : C8.Cal P w K mg base 3 "check_cover" spCheckCover []) : C8.Cal P w K mg base 4 "write_sheet" (spWrite CT CD) [] := by
  have sc : FnScope ["demand", "cover", "lines", "start", "end", "cube", "line"] ["demand", "cover"] (C8.fnScope sWrite) := C8.fnScope_by (by decide +kernel)
  refine C8.cal0 F b .nil sc (fun vs H Q E h => ?_) (fun cdv A outer s H vs Q E hr h => ?_)
  · obtain ⟨n, d, v, t, chs, cov, rfl, _⟩ := h
    rfl
  · obtain ⟨n, d, v, t, chs, cov, rfl, ⟨dx, tb, tp, st, ol, cs, h1, ⟨dt, h2⟩, h3, h4⟩, hv, g, k⟩ := h
    refine ⟨_, pss_cons (ps_set (i := 2) sc.nd rfl (.inl rfl) (pe_lst (pa_cons (pe_op op_add_str pe_str (pe_fld (pe_fld (pv 0) rfl) rfl)) pa_nil)))
      (pss_cons (ps_aug (i := 2) sc.nd rfl (.inl rfl) (pe_lc (own := [("start", 3), ("end", 4)]) (g := gTup K 2 (gCons (gName 3) (gCons (gName 4) gNil))) (tt := tYes) rfl sc.nd (pi_tup (pe_fld (pv 0) rfl)) (blkOk_by (N := ["demand", "cover", "lines", "start", "end", "cube", "line"]) (sc := C8.fnScope sWrite) (by decide +kernel))
          (fun _ _ _ _ _ => pg_tup rfl (pgs_cons (pg_name (i := 3) sc.nd rfl (.inl rfl)) (pgs_cons (pg_name (i := 4) sc.nd rfl (.inl rfl)) pgs_nil))) (fun _ _ _ _ _ => pts_nil)
          (fun _ _ _ _ _ => pe_joinT (.cons pe_str (.cons (pe_fmt (pv 3)) (.cons pe_str (.cons (pe_fmt (pv 4)) .nil)))))) iop_ext)
      (C8.pss_cut (ps_if (pt_cmpR op_notN (pv 1) pe_non (nomark _))
        (pss_cons (ps_expr (C8.pe_c cC hr (by decide) (by rfl) (pa_cons (pv 1) (pa_cons (pe_fld (pe_fld (pv 0) rfl) rfl) pa_nil))))
        (pss_one (ps_aug (i := 2) sc.nd rfl (.inl rfl) (pe_lst (pa_cons pe_str (StX.pa_star (pe_lc (own := [("cube", 5)]) (g := gName 5) (tt := tYes) rfl sc.nd (pi_list (pv 1)) (blkOk_by (N := ["demand", "cover", "lines", "start", "end", "cube", "line"]) (sc := C8.fnScope sWrite) (by decide +kernel))
          (fun _ _ _ _ _ => pg_name (i := 5) sc.nd rfl (.inl rfl)) (fun _ _ _ _ _ => pts_nil) (fun _ _ _ _ _ => pe_op op_add_str pe_str (pv 5))) pa_nil))) iop_ext))) pss_nil)
      (pss_one (ps_ret (pe_join pe_str (pe_lc (own := [("line", 6)]) (g := gName 6) (tt := tYes) rfl sc.nd (pi_list (pv 2)) (blkOk_by (N := ["demand", "cover", "lines", "start", "end", "cube", "line"]) (sc := C8.fnScope sWrite) (by decide +kernel))
          (fun _ _ _ _ _ => pg_name (i := 6) sc.nd rfl (.inl rfl)) (fun _ _ _ _ _ => pts_nil) (fun _ _ _ _ _ => pe_op op_add_str (pv 6) pe_str))))))), ?_⟩
    have h16 := pow_le g.tb.hi
    -- lines = ['table ' + demand.table.text]
    refine ⟨_, rfl, d, CD, dx, _, _, rfl, h1, DC.cl, DC.table, dfs_table tb tp st ol, tb, CT, dt, _, _, rfl, h2, TC.cl, TC.text, tfs_text t n, _, _, rfl, rfl, ?_, one_le _, fun p0 hp0 => ?_⟩
    · rw [lit "table " (l := q "table ") rfl, SX.S_len, SX.S_len, g.tb.len]
      exact Nat.le_of_lt (small1000 (by have : (q "table ").length = 6 := (by decide); omega))
    have e0 : Str.ofString "table " ++ S t = S (lineT t) := by rw [lit "table " (l := q "table ") rfl, SX.S_cat]; rfl
    rw [e0]
    have x0 := Ex.new (o := .lst [.str (S (lineT t))]) hp0
    -- lines += [f'change {start} {end}' ..]
    refine ⟨_, rfl, _, rfl, d, CD, dx, _, _, rfl, x0 _ _ h1, DC.cl, DC.changes, dfs_changes tb tp st ol, tp, rfl, ⟨_, .inl (.inl (x0 _ _ h3))⟩, fun D hD => ?_⟩
    refine lc_ex chs (walk_chs (K := K) (tp := tp) (cs := cs) h4.len) (fun ch => some (.str (S (lineC ch)))) hD (by have := g.few; omega) (fun H2 e => ⟨e _ _ (x0 _ _ h3), h4.ex (x0.trans e)⟩) (fun i ch x H2 H3 Kn Nn hch e y hk _ => ?_) (fun H2 e2 hl => ?_)
    · obtain ⟨rfl, c, ch', rfl, hch', hc⟩ := y
      rw [hch] at hch'
      obtain rfl := Option.some.inj hch'
      have gc := g.good ch (List.mem_of_getElem? hch)
      have l1 := gc.a.len
      have l2 := gc.b.len
      have hi := g.tb.hi
      refine ⟨c, _, rfl, .inl (.inl hc), rfl, _, _, rfl, _, _, rfl, rfl, rfl, yes_ ?_⟩
      have q7 : (q "change ").length = 7 := by decide
      have q1 : (q " ").length = 1 := by decide
      have a0 : Str.empty ++ Str.ofString "change " = S (q "change ") := by rw [lit "change " (l := q "change ") rfl]; exact cat_S (a := []) rfl
      have a1 : Str.empty ++ Str.ofString "change " ++ S ch.1 = S (q "change " ++ ch.1) := by rw [a0, SX.S_cat]
      have a2 : Str.empty ++ Str.ofString "change " ++ S ch.1 ++ Str.ofString " " = S (q "change " ++ ch.1 ++ q " ") := by rw [a1, lit " " (l := q " ") rfl, SX.S_cat]
      have a3 : Str.empty ++ Str.ofString "change " ++ S ch.1 ++ Str.ofString " " ++ S ch.2 = S (lineC ch) := by rw [a2, SX.S_cat]; rfl
      refine ⟨_, rfl, ?_, _, rfl, .inl ⟨_, rfl, sz_S (by omega), _, rfl, ?_, _, rfl, ?_, _, rfl, .inl ⟨_, rfl, sz_S (by omega), _, rfl, ?_, ?_⟩⟩⟩
      · rw [a0]
        exact sz_S (by omega)
      · rw [a1]
        exact sz_S (by rw [List.length_append]; omega)
      · rw [a2]
        exact sz_S (by rw [List.length_append, List.length_append]; omega)
      · rw [a3]
        exact sz_S (by have := lineC_len gc g.tb.hi; omega)
      · show Kn (.str (Str.empty ++ Str.ofString "change " ++ S ch.1 ++ Str.ofString " " ++ S ch.2)) H3
        rw [a3]
        exact hk _ _ rfl (Ex.refl _)
    · rw [fm_txs] at hl
      have hp2 : H2 p0 = some (.lst (txs [lineT t])) := e2 _ _ upd_same
      refine ⟨p0, D, _, _, rfl, rfl, hp2, hl, ?_, ?_⟩
      · rw [txs_len, txs_len, List.length_map]
        exact Nat.le_of_lt (small1000 (by have := g.few; show 1 + _ ≤ _; omega))
      rw [txs_app]
      have e3 : Ex H (upd H2 p0 (.lst (txs ([lineT t] ++ chs.map lineC)))) := Ex.mut (x0.trans e2) hp0
      -- if cover is not None
      refine ⟨fun σ' H' => σ' = [some (.ref d), some v, some (.ref p0), none, none, none, none] ∧ Ex H H' ∧ H' p0 = some (.lst (txs (linesOf t chs cov))), ?_, ?_⟩
      · refine ⟨_, rfl, rfl, _, rfl, ?_⟩
        cases cov with
        | none =>
          obtain rfl : v = .non := hv
          refine iteNS rfl ⟨rfl, e3, ?_⟩
          rw [upd_same]
          show some (HO.lst (txs ([lineT t] ++ chs.map lineC))) = some (HO.lst (txs (lineT t :: (chs.map lineC ++ []))))
          rw [List.append_nil]
          rfl
        | some cov =>
          obtain ⟨ca, rfl, hca⟩ := hv
          have many := g.many cov rfl
          have cubes := g.cubes cov rfl
          refine iteNF (by intro z; cases z) ?_
          refine ⟨_, rfl, _, rfl, d, CD, dx, _, _, rfl, e3 _ _ h1, DC.cl, DC.table, dfs_table tb tp st ol, tb, CT, dt, _, _, rfl, e3 _ _ h2, TC.cl, TC.n, tfs_n t n, n, ca, cov, rfl, e3 _ _ hca, many, cubes, g.tb.hi, fun H4 e4 => ?_⟩
          have e34 := e3.trans e4
          refine ⟨_, rfl, _, rfl, ca, rfl, ⟨_, .inl (.inl (e34 _ _ hca))⟩, fun D2 hD2 => ?_⟩
          refine lc_ex cov (walk_txs (K := K) (a := ca) (l := cov)) (fun c => some (.str (S (lineP c)))) hD2 (by omega) (fun H5 e => e _ _ (e34 _ _ hca)) (fun i c x H5 H6 Kn Nn hc e y hk _ => ?_) (fun H5 e5 hl5 => ?_)
          · obtain ⟨rfl, c', hc', rfl⟩ := y
            rw [hc] at hc'
            obtain rfl := Option.some.inj hc'
            have lc := (cubes c (List.mem_of_getElem? hc)).len
            have hi := g.tb.hi
            refine ⟨rfl, yes_ ?_⟩
            refine ⟨_, rfl, _, _, rfl, rfl, ?_, ?_⟩
            · rw [lit "product " (l := q "product ") rfl, SX.S_len, SX.S_len, lc]
              exact Nat.le_of_lt (small1000 (by have : (q "product ").length = 8 := (by decide); omega))
            · have ep : Str.ofString "product " ++ S c = S (lineP c) := by rw [lit "product " (l := q "product ") rfl, SX.S_cat]; rfl
              rw [ep]
              exact hk _ _ rfl (Ex.refl _)
          · rw [fm_txs] at hl5
            refine ⟨D2, _, rfl, .inr (.inl (.inl hl5)), ?_, fun p7 hp7 => ?_⟩
            · show (V.str _ :: (txs (cov.map lineP) ++ [])).length ≤ _
              rw [List.append_nil, List.length_cons, txs_len, List.length_map]
              exact Nat.le_of_lt (small1000 (by omega))
            · have ecv : (V.str (Str.ofString "cover") :: (txs (cov.map lineP) ++ [])) = txs (q "cover" :: cov.map lineP) := by
                rw [lit "cover" (l := q "cover") rfl, List.append_nil]
                rfl
              rw [ecv]
              have x7 := Ex.new (o := .lst (txs (q "cover" :: cov.map lineP))) hp7
              have hp5 : H5 p0 = some (.lst (txs ([lineT t] ++ chs.map lineC))) := e5 _ _ (e4 _ _ upd_same)
              refine ⟨p0, p7, _, _, rfl, rfl, x7 _ _ hp5, upd_same, ?_, rfl, Ex.mut ((e34.trans e5).trans x7) hp0, ?_⟩
              · rw [txs_len, txs_len, List.length_cons, List.length_append, List.length_map, List.length_map]
                exact Nat.le_of_lt (small1000 (by have := g.few; show 1 + _ + _ ≤ _; omega))
              · rw [upd_same, txs_app]
                show some (HO.lst (txs ([lineT t] ++ chs.map lineC ++ (q "cover" :: cov.map lineP)))) = some (HO.lst (txs (lineT t :: (chs.map lineC ++ (q "cover" :: cov.map lineP)))))
                rw [List.append_assoc]
                rfl
      · rintro σ' H4 ⟨rfl, e4, hp4⟩
        refine ⟨⟨_, rfl⟩, _, rfl, p0, rfl, ⟨_, .inl (.inl hp4)⟩, fun D3 hD3 => ?_⟩
        refine lc_ex (linesOf t chs cov) (walk_txs (K := K) (a := p0) (l := linesOf t chs cov)) (fun l => some (.str (S (l ++ [10])))) hD3 (by have := lines_many g; omega) (fun H5 e => e _ _ hp4) (fun i l x H5 H6 Kn Nn hl e y hk _ => ?_) (fun H5 e5 hl5 => ?_)
        · obtain ⟨rfl, l', hl', rfl⟩ := y
          rw [hl] at hl'
          obtain rfl := Option.some.inj hl'
          have ll := line_len g l (List.mem_of_getElem? hl)
          refine ⟨rfl, yes_ ?_⟩
          refine ⟨_, rfl, _, _, rfl, rfl, ?_, ?_⟩
          · rw [lit "\n" (l := [10]) (by decide), SX.S_len, SX.S_len]
            exact Nat.le_of_lt (small1000 (by show _ + 1 ≤ _; omega))
          · rw [lit "\n" (l := [10]) (by decide), SX.S_cat]
            exact hk _ _ rfl (Ex.refl _)
        · rw [fm_txs] at hl5
          have emap := txs_map ((linesOf t chs cov).map fun l => l ++ [10])
          refine ⟨S [], D3, ((linesOf t chs cov).map fun l => l ++ [10]).map S, rfl, rfl, .inl (.inl (.inl (by rw [← emap]; exact hl5))), ?_, ?_⟩
          · rw [SX.lens, SX.S_len, List.length_map, List.length_map]
            refine Nat.le_trans (Nat.add_le_add_right (sum_le ((linesOf t chs cov).map fun l => l ++ [10]) fun x hx => ?_) _) ?_
            · obtain ⟨l, hl, rfl⟩ := List.mem_map.mp hx
              have := line_len g l hl
              rw [List.length_append]
              show _ + 1 ≤ 30
              omega
            · rw [List.length_map]
              have a2 := lines_many g
              show _ + _ * 0 ≤ _
              omega
          · rw [SX.join_S, join_nil]
            have ef : ((linesOf t chs cov).map fun l => l ++ [10]).flatten = sheet t chs cov := by
              unfold sheet
              rw [List.flatMap_def]
            rw [ef]
            exact k H5 (e4.trans e5)
end
end Sc

namespace Sc
open PySem L2
open Evl (Ex Ev)
/-- what a reader holds -/
def rfs (tv : V) (l : Addr) (cv : V) : List (Str × V) := [("table", tv), ("changes", .ref l), ("cubes", cv)]
theorem n_tc : ¬ (("table" : Str) = "changes") := by decide +kernel
theorem n_tb : ¬ (("table" : Str) = "cubes") := by decide +kernel
theorem n_cb : ¬ (("changes" : Str) = "cubes") := by decide +kernel
theorem n_bt : ¬ (("cubes" : Str) = "table") := by decide +kernel
theorem n_ct : ¬ (("changes" : Str) = "table") := by decide +kernel
theorem rfs_made (tv : V) (l : Addr) (cv : V) : putF "cubes" cv (putF "changes" (.ref l) (putF "table" tv [])) = rfs tv l cv := by
  unfold rfs
  simp only [putF, if_neg n_tc, if_neg n_tb, if_neg n_cb]
theorem rfs_table (tv u : V) (l : Addr) (cv : V) : putF "table" u (rfs tv l cv) = rfs u l cv := by
  unfold rfs
  simp only [putF, if_true]
theorem rfs_cubes (tv u : V) (l : Addr) (cv : V) : putF "cubes" u (rfs tv l cv) = rfs tv l u := by
  unfold rfs
  simp only [putF, if_neg n_tb, if_neg n_cb, if_true]
theorem rfs_eq (tv : V) (l : Addr) (cv : V) : rfs tv l cv = putF "cubes" cv (putF "changes" (.ref l) (putF "table" tv [])) := (rfs_made tv l cv).symm
theorem rfs_lt (tv : V) (l : Addr) (cv : V) : (rfs tv l cv).lookup ("table" : Str) = some tv := by
  rw [rfs_eq, lookup_putF, if_neg n_tb, lookup_putF, if_neg n_tc, lookup_putF, if_pos rfl]
theorem rfs_lc (tv : V) (l : Addr) (cv : V) : (rfs tv l cv).lookup ("changes" : Str) = some (.ref l) := by
  rw [rfs_eq, lookup_putF, if_neg n_cb, lookup_putF, if_pos rfl]
theorem rfs_lb (tv : V) (l : Addr) (cv : V) : (rfs tv l cv).lookup ("cubes" : Str) = some cv := by
  rw [rfs_eq, lookup_putF, if_pos rfl]
theorem rfs_no (tv : V) (l : Addr) (cv : V) {m : Str} (h1 : ¬ m = "cubes") (h2 : ¬ m = "changes") (h3 : ¬ m = "table") : (rfs tv l cv).lookup m = none := by
  rw [rfs_eq, lookup_putF, if_neg h1, lookup_putF, if_neg h2, lookup_putF, if_neg h3] <;> rfl
/-- the reader at r (its changes at l), as far as it has read; H0: the heap ahead of its making -/
structure RdS (CT CR : Addr) (H0 H : Hp) (r l : Addr) (n : Nat) (t : L) (tab : Bool) (chs : List (L × L)) (cov : Option (List L)) : Prop where
  ex : Ex H0 H
  nr : H0 r = none
  nl : H0 l = none
  at_ : ∃ dx tv cv cs, H r = some (.ins CR dx (rfs tv l cv)) ∧ H l = some (.lst (refs cs)) ∧ ChsAt H cs chs ∧ (tab = false → tv = .non) ∧ (tab = true → ∃ T, tv = .ref T ∧ TabAt CT H T t n) ∧ CovAt H cv cov ∧ ∀ a, cv = .ref a → a ≠ l ∧ H0 a = none
/-- what the walk asks of the class SheetReader -/
structure RdC (K : PySem.W.Frag) (CR : Addr) : Prop where
  cl : Cls K CR
  table : NoAttr K CR "table"
  changes : NoAttr K CR "changes"
  cubes : NoAttr K CR "cubes"
theorem lay_strsN : ∀ {cs : List L}, (∀ c ∈ cs, ∀ x ∈ c, x < 1114112) → PyData.canLayAll0 (cs.map fun r => PyData.str (S r)) = true ∧ PyData.depthAll (cs.map fun r => PyData.str (S r)) ≤ 1
  | [], _ => ⟨by simp [PyData.canLayAll0], by simp [PyData.depthAll]⟩
  | c :: cs, h => by
    obtain ⟨h1, h2⟩ := lay_strsN (cs := cs) fun x hx => h x (List.mem_cons_of_mem _ hx)
    have hc : PyData.strOk (S c) = true := by
      show (S c).cps.all (fun x => decide (x < 1114112)) = true
      rw [← Array.all_toList, List.all_eq_true]
      intro x hx
      exact decide_eq_true (h c List.mem_cons_self x (by simpa using hx))
    refine ⟨?_, ?_⟩
    · simp only [List.map_cons, PyData.canLayAll0, PyData.canLay0, Bool.and_eq_true]
      exact ⟨hc, h1⟩
    · simp only [List.map_cons, PyData.depthAll, PyData.depth]
      omega
theorem shaped_strsN {cs : List L} (h : ∀ c ∈ cs, ∀ x ∈ c, x < 1114112) : SeqAt.shaped (.list (cs.map fun r => PyData.str (S r))) = true := by
  obtain ⟨h1, h2⟩ := lay_strsN h
  unfold SeqAt.shaped
  rw [Bool.and_eq_true]
  exact ⟨by simp only [PyData.canLay0]; exact h1, decide_eq_true (by simp only [PyData.depth]; omega)⟩
section
variable {P : Program} {w : World} {K : PySem.W.Frag} {mg : Str → Option Value} {base : Heap} {CT CD CR : Addr}
abbrev sRdInit : Stmt := inClass (top 40) 0
def spRdInit (CT CR : Addr) : Sp := fun vs H Q _ => ∃ (n : Nat) (r dx : Addr) (t : L) (H0 : Hp), vs = [.ref r] ∧ Ex H0 H ∧ H0 r = none ∧ H r = some (.ins CR dx []) ∧ ∀ H' l, RdS CT CR H0 H' r l n t false [] none → Q .non H'
theorem ok_rd_init {f : Addr} {fd : FuncData} (RC : RdC K CR) (M : Mk K CR f) (hm : mg "SheetReader" = some (.ref CR)) (F : C8.Fun K "__init__" "SheetReader.__init__" sRdInit f fd) (b : Binds K fd ["self"] []) : FnOk P w K mg base C8.CX0 1 f fd ["self"] (spRdInit CT CR) := by
  have sc : FnScope ["self"] ["self"] (C8.fnScope sRdInit) := C8.fnScope_by (by decide +kernel)
  refine C8.fn0 F sc (fun vs H Q E h => ?_) (fun cdv A outer s H vs Q E hr h => ?_)
  · obtain ⟨n, r, dx, t, H0, rfl, _⟩ := h
    rfl
  · obtain ⟨n, r, dx, t, H0, rfl, e, nr, hr0, k⟩ := h
    refine ⟨_, pss_cons (ps_fld (pv 0) pe_non rfl) (pss_cons (ps_fld (pv 0) (pe_lst pa_nil) rfl) (pss_one (ps_fld (pv 0) pe_non rfl))), ?_⟩
    refine ⟨_, rfl, r, CR, dx, _, rfl, hr0, RC.cl, RC.table, by show 0 < 1000; decide, ?_⟩
    refine ⟨Nat.zero_le _, fun l hl => ?_⟩
    have nlr : l ≠ r := fun z => by
      rw [z, upd_same] at hl
      cases hl
    have hl0 : H l = none := by
      rw [upd_ne nlr] at hl
      exact hl
    refine ⟨_, rfl, r, CR, dx, _, rfl, by rw [upd_ne nlr.symm, upd_same], RC.cl, RC.changes, by show 1 < 1000; decide, ?_⟩
    have l2 := putF_len "changes" (V.ref l) (putF "table" V.non [])
    have l1 : (putF ("table" : Str) V.non []).length = 1 := rfl
    refine ⟨_, rfl, r, CR, dx, _, rfl, upd_same, RC.cl, RC.cubes, by omega, ?_⟩
    rw [rfs_made]
    refine k _ l ⟨?_, nr, Evl.fresh_back e hl0, dx, .non, .non, [], upd_same, by rw [upd_ne nlr, upd_ne nlr, upd_same] <;> rfl, ⟨rfl, fun i c ch h1 _ => by simp at h1⟩, fun _ => rfl, fun z => (nomatch z), rfl, fun a z => (nomatch z)⟩
    exact Ex.mut (Ex.mut (Ex.mut (Ex.mut e nr) (Evl.fresh_back e hl0)) nr) nr
end
end Sc

namespace Sc
open PySem L2
open Evl (Ex Ev)
theorem RdS.up {CT CR : Addr} {H0 H H' : Hp} {r l : Addr} {n : Nat} {t : L} {tab : Bool} {chs : List (L × L)} {cov : Option (List L)} (h : RdS CT CR H0 H r l n t tab chs cov) (e : Ex H H') : RdS CT CR H0 H' r l n t tab chs cov := by
  obtain ⟨h1, h2, h3, dx, tv, cv, cs, a1, a2, a3, a4, a5, a6, a7⟩ := h
  refine ⟨h1.trans e, h2, h3, dx, tv, cv, cs, e _ _ a1, e _ _ a2, a3.ex e, a4, fun z => ?_, a6.ex e, a7⟩
  obtain ⟨T, hT, hT2⟩ := a5 z
  exact ⟨T, hT, hT2.ex e⟩
/-- a made instance: all that stood stands -/
theorem made_ex {H1 H' : Hp} {x dx C : Addr} (hx : H1 x = none) (hd : H1 dx = none) (k : ∀ b o, upd (upd H1 dx (.own x)) x (.ins C dx []) b = some o → b ≠ x → H' b = some o) : Ex H1 H' := fun b o hb => by
  have n1 : b ≠ x := fun z => by
    rw [z, hx] at hb
    cases hb
  have n2 : b ≠ dx := fun z => by
    rw [z, hd] at hb
    cases hb
  exact k b o (by rw [upd_ne n1, upd_ne n2]; exact hb) n1
theorem refs_snoc {H : Hp} {cs : List Addr} {chs : List (L × L)} {c : Addr} {ch : L × L} (h : ChsAt H cs chs) (hc : ChAt H c ch) : ChsAt H (cs ++ [c]) (chs ++ [ch]) := by
  refine ⟨by rw [List.length_append, List.length_append, h.len] <;> rfl, fun i x y h1 h2 => ?_⟩
  by_cases hi : i < cs.length
  · rw [List.getElem?_append_left hi] at h1
    rw [List.getElem?_append_left (by rw [← h.len]; exact hi)] at h2
    exact h.at_ i x y h1 h2
  · have e2 := h.len
    rw [List.getElem?_append_right (by omega)] at h1
    rw [List.getElem?_append_right (by omega)] at h2
    have i0 : i - cs.length = 0 := by
      have := (List.getElem?_eq_some_iff.mp h1).1
      simp at this
      omega
    have i1 : i - chs.length = 0 := by omega
    rw [i0] at h1
    rw [i1] at h2
    cases h1
    cases h2
    exact hc
section
variable {P : Program} {w : World} {K : PySem.W.Frag} {mg : Str → Option Value} {base : Heap} {CT CD CR : Addr}
abbrev sTakeTable : Stmt := inClass (top 40) 2
def spTakeTable (CT CR : Addr) : Sp := fun vs H Q _ => ∃ (n : Nat) (r l wl : Addr) (t : L) (H0 : Hp), vs = [.ref r, .ref wl] ∧ RdS CT CR H0 H r l n t false [] none ∧ H wl = some (.lst (txs [q "table", t])) ∧ Tb n t ∧ ∀ H', RdS CT CR H0 H' r l n t true [] none → Q (.bl true) H'
theorem ok_take_table {f CI : Addr} {fd : FuncData} (RC : RdC K CR) (me : Meth K CR "take_table" f) (F : C8.Fun K "take_table" "SheetReader.take_table" sTakeTable f fd) (b : Binds K fd ["self", "words"] []) (T : Blt mg) (gI : mg "InvalidTable" = some (.ref CI))
    (mT : C8.Mak P w K mg base 1 "Table" CT (spTabInit CT) []) : C8.Met P w K mg base 3 CR "take_table" (spTakeTable CT CR) [] := by
  have sc : FnScope ["self", "words"] ["self", "words"] (C8.fnScope sTakeTable) := C8.fnScope_by (by decide +kernel)
  refine C8.met0 RC.cl me F b sc (fun vs H Q E h => ?_) (fun cdv A outer s H vs Q E hr h => ?_)
  · obtain ⟨n, r, l, wl, t, H0, rfl, _⟩ := h
    rfl
  · obtain ⟨n, r, l, wl, t, H0, rfl, R, hw, ht, k⟩ := h
    refine ⟨_, pss_cons (ps_if (PW.pt (pw_or (pt_cmpR op_ne (pe_callB call_len_seq (by rfl) T.len PySem.boot_len (pa_cons (pv 1) pa_nil)) pe_int (nomark _))
        (pw_or1 (pt_cmpR op_ne (pe_ix ix_list (pv 1) pe_int (fun _ _ => rfl)) pe_str (nomark _))))) (pss_one ps_never) pss_nil)
      (pss_cons (ps_try_only (c := .ref CI) (tb := fun _ => sFld K (tVar 0) (tMake CT (spTabInit CT) [] C8.E0 (tCons (tOp (rIxL K) (tVar 1) (tC (.int 1))) tNil)) "table") (ts := fun _ _ _ => tNever) rfl rfl ⟨by rfl, by decide, .inl gI⟩ takes0 (fun W pn xe tk _ => by
        refine pss_one ?_
        refine ps_fld ?_ ?_ ?_
        · exact pv 0
        · exact C8.pe_mk mT hr (by decide) (by rfl) (pa_cons (pe_ix ix_list (pv 1) pe_int (fun _ _ => rfl)) pa_nil)
        · rfl)
        (fun a oe cls d pn _ _ => by exact pss_one ps_never))
      (pss_one (ps_ret pe_bl))), ?_⟩
    have at0 : atI (txs [q "table", t]) 0 = some (.str (S (q "table"))) := rfl
    have at1 : atI (txs [q "table", t]) 1 = some (.str (S t)) := rfl
    refine ⟨_, rfl, wl, _, rfl, .inl (.inl (.inl hw)), rfl, _, rfl, iteNS rfl ?_⟩
    refine ⟨_, rfl, wl, _, _, _, rfl, rfl, .inl (.inl hw), at0, rfl, _, rfl, ?_⟩
    refine iteNS (by rw [lit "table" (l := q "table") rfl]) ?_
    refine ⟨_, rfl, wl, _, _, _, rfl, rfl, .inl (.inl hw), at1, fun x dx hx hd hne => ?_⟩
    refine ⟨n, x, dx, t, rfl, upd_same, ht, fun H' kH hT => ⟨rfl, ?_⟩⟩
    have e := made_ex hx hd kH
    have R' := R.up e
    obtain ⟨h1, h2, h3, dr, tv, cv, cs, a1, a2, a3, a4, a5, a6, a7⟩ := R'
    refine ⟨_, rfl, r, CR, dr, _, rfl, a1, RC.cl, RC.table, by show 3 < 1000; decide, ?_⟩
    rw [rfs_table]
    obtain ⟨dT, hT⟩ := hT
    have nrl : l ≠ r := ne_of a2 a1 (by intro z; cases z)
    refine k _ ⟨Ex.mut h1 h2, h2, h3, dr, _, cv, cs, upd_same, by rw [upd_ne nrl]; exact a2, ⟨a3.len, fun i c ch z1 z2 => ?_⟩, fun z => (nomatch z), fun _ => ⟨x, rfl, dT, ?_⟩, a6, a7⟩
    · rw [List.getElem?_nil] at z2
      cases z2
    · have nx : x ≠ r := fun z => by
        obtain ⟨_, _, _, _, _, _, _, b1, _⟩ := R
        rw [z, b1] at hx
        cases hx
      rw [upd_ne nx]
      exact hT
abbrev sTakeChange : Stmt := inClass (top 40) 3
def spTakeChange (CT CR : Addr) : Sp := fun vs H Q _ => ∃ (n : Nat) (r l wl : Addr) (t : L) (H0 : Hp) (chs : List (L × L)) (ch : L × L), vs = [.ref r, .ref wl] ∧ RdS CT CR H0 H r l n t true chs none ∧ H wl = some (.lst (txs [q "change", ch.1, ch.2])) ∧ Tb n t ∧ GoodCh n t ch ∧ chs.length < 8 ∧ ∀ H', RdS CT CR H0 H' r l n t true (chs ++ [ch]) none → Q (.bl true) H'
theorem ok_take_change {f : Addr} {fd : FuncData} (TC : TabC K CT) (RC : RdC K CR) (me : Meth K CR "take_change" f) (F : C8.Fun K "take_change" "SheetReader.take_change" sTakeChange f fd) (b : Binds K fd ["self", "words"] []) (T : Blt mg) (mp : ∃ t, mg "MOST_CHANGES" = some (.int 8 t))
    (cI : C8.Cal P w K mg base 3 "is_change" spIsChange []) (cP : C8.Cal P w K mg base 6 "is_plain" (spIsPlain CT) []) : C8.Met P w K mg base 7 CR "take_change" (spTakeChange CT CR) [] := by
  have sc : FnScope ["self", "words", "change"] ["self", "words"] (C8.fnScope sTakeChange) := C8.fnScope_by (by decide +kernel)
  obtain ⟨tm, mp⟩ := mp
  refine C8.met0 RC.cl me F b sc (fun vs H Q E h => ?_) (fun cdv A outer s H vs Q E hr h => ?_)
  · obtain ⟨n, r, l, wl, t, H0, chs, ch, rfl, _⟩ := h
    rfl
  · obtain ⟨n, r, l, wl, t, H0, chs, ch, rfl, R, hw, ht, g, h8, k⟩ := h
    refine ⟨_, pss_cons (ps_if (PW.pt (pw_or (pt_cmpR op_ne (pe_callB call_len_seq (by rfl) T.len PySem.boot_len (pa_cons (pv 1) pa_nil)) pe_int (nomark _))
        (pw_or (pt_cmpR op_ne (pe_ix ix_list (pv 1) pe_int (fun _ _ => rfl)) pe_str (nomark _))
        (pw_or1 (pt_cmpR op_eq (pe_callB call_len_seq (by rfl) T.len PySem.boot_len (pa_cons (pe_fld (pv 0) rfl) pa_nil)) (pe_glob (v := .int 8) (by rfl) mp ⟨_, rfl⟩) (nomark _)))))) (pss_one ps_never) pss_nil)
      (pss_cons (ps_set (i := 2) sc.nd rfl (.inl rfl) (pe_tup (pa_cons (pe_ix ix_list (pv 1) pe_int (fun _ _ => rfl)) (pa_cons (pe_ix ix_list (pv 1) pe_int (fun _ _ => rfl)) pa_nil))))
      (pss_cons (ps_if (PW.pt (pw_or (pt_not (pt_val (C8.pe_c cI hr (by decide) (by rfl) (pa_cons (pv 2) (pa_cons (pe_fld (pe_fld (pv 0) rfl) rfl) pa_nil)))))
        (pw_or1 (pt_not (pt_val (C8.pe_c cP hr (by decide) (by rfl) (pa_cons (pe_fld (pv 0) rfl) (pa_cons (pv 2) pa_nil)))))))) (pss_one ps_never) pss_nil)
      (pss_cons (ps_expr (pe_bm PySem.F.plainAttrs_list PySem.F.slot_list_append PySem.F.type_list_append mt_append (pe_fld (pv 0) rfl) (pa_cons (pv 2) pa_nil)))
      (pss_one (ps_ret pe_bl))))), ?_⟩
    have at0 : atI (txs [q "change", ch.1, ch.2]) 0 = some (.str (S (q "change"))) := rfl
    have at1 : atI (txs [q "change", ch.1, ch.2]) 1 = some (.str (S ch.1)) := rfl
    have at2 : atI (txs [q "change", ch.1, ch.2]) 2 = some (.str (S ch.2)) := rfl
    obtain ⟨h1, h2, h3, dr, tv, cv, cs, a1, a2, a3, a4, a5, a6, a7⟩ := id R
    obtain ⟨T0, rfl, dT, hT⟩ := a5 rfl
    refine ⟨_, rfl, wl, _, rfl, .inl (.inl (.inl hw)), rfl, _, rfl, iteNS rfl ?_⟩
    refine ⟨_, rfl, wl, _, _, _, rfl, rfl, .inl (.inl hw), at0, rfl, _, rfl, ?_⟩
    refine iteNS (by rw [lit "change" (l := q "change") rfl]) ?_
    have el : (refs cs).length = chs.length := (List.length_map ..).trans a3.len
    refine ⟨_, rfl, r, CR, dr, _, _, rfl, a1, RC.cl, RC.changes, rfs_lc (.ref T0) l cv, l, _, rfl, .inl (.inl (.inl a2)), rfl, _, rfl, iteDF (fun z => by have z' := V.int.inj z; omega) ?_⟩
    refine ⟨_, rfl, wl, _, _, _, rfl, rfl, .inl (.inl hw), at1, _, rfl, wl, _, _, _, rfl, rfl, .inl (.inl hw), at2, two_le _ _, fun p hp => ?_⟩
    have e1 := Ex.new (o := .tup [.str (S ch.1), .str (S ch.2)]) hp
    have hc1 : ChAt (upd H p (.tup [.str (S ch.1), .str (S ch.2)])) p ch := upd_same
    refine ⟨_, rfl, _, rfl, r, CR, dr, _, _, rfl, e1 _ _ a1, RC.cl, RC.table, rfs_lt (.ref T0) l cv, T0, CT, dT, _, _, rfl, e1 _ _ hT, TC.cl, TC.n, tfs_n t n, n, p, ch, rfl, hc1, g.a, g.b, g.ne, ht.hi, fun H2 e2 => ⟨true, rfl, iteF ?_⟩⟩
    have e12 := e1.trans e2
    refine ⟨_, rfl, r, CR, dr, _, _, rfl, e12 _ _ a1, RC.cl, RC.table, rfs_lt (.ref T0) l cv, _, rfl, n, T0, p, t, ch, rfl, ⟨dT, e12 _ _ hT⟩, ht, e2 _ _ hc1, g, fun H3 e3 => ⟨true, rfl, iteF ?_⟩⟩
    have e13 := e12.trans e3
    have hc3 : ChAt H3 p ch := e3 _ _ (e2 _ _ hc1)
    refine ⟨_, rfl, r, CR, dr, _, _, rfl, e13 _ _ a1, RC.cl, RC.changes, rfs_lc (.ref T0) l cv, .inl ⟨rfl, _, .inl (.inl (e13 _ _ a2))⟩, _, rfl, l, _, _, rfl, rfl, e13 _ _ a2, small1000 (by omega), ?_⟩
    have nrl : r ≠ l := ne_of a1 a2 (by intro z; cases z)
    have ntl : T0 ≠ l := ne_of hT a2 (by intro z; cases z)
    have ncl : ∀ (c : Addr) (ch' : L × L), ChAt H3 c ch' → c ≠ l := fun c ch' z => ne_of z (e13 _ _ a2) (by intro z; cases z)
    refine k _ ⟨Ex.mut (h1.trans e13) h3, h2, h3, dr, _, cv, cs ++ [p], by rw [upd_ne nrl]; exact e13 _ _ a1, ?_, refs_snoc ⟨a3.len, fun i c ch' z1 z2 => ?_⟩ ?_, fun z => (nomatch z), fun _ => ⟨T0, rfl, dT, by rw [upd_ne ntl]; exact e13 _ _ hT⟩, a6, a7⟩
    · rw [upd_same]
      unfold refs
      rw [List.map_append] <;> rfl
    · have z3 := (a3.ex e13).at_ i c ch' z1 z2
      show upd H3 l _ c = _
      rw [upd_ne (ncl _ _ z3)]
      exact z3
    · show upd H3 l _ p = _
      rw [upd_ne (ncl _ _ hc3)]
      exact hc3
abbrev sTakeProduct : Stmt := inClass (top 40) 4
def spTakeProduct (CT CR : Addr) : Sp := fun vs H Q _ => ∃ (n : Nat) (r l wl : Addr) (t : L) (H0 : Hp) (chs : List (L × L)) (cov : List L) (c : L), vs = [.ref r, .ref wl] ∧ RdS CT CR H0 H r l n t true chs (some cov) ∧ H wl = some (.lst (txs [q "product", c])) ∧ n ≤ 4 ∧ Cb n c ∧ cov.length < 40 ∧ ∀ H', RdS CT CR H0 H' r l n t true chs (some (cov ++ [c])) → Q (.bl true) H'
theorem ok_take_product {f : Addr} {fd : FuncData} (TC : TabC K CT) (RC : RdC K CR) (me : Meth K CR "take_product" f) (F : C8.Fun K "take_product" "SheetReader.take_product" sTakeProduct f fd) (b : Binds K fd ["self", "words"] []) (T : Blt mg) (mp : ∃ t, mg "MOST_PRODUCTS" = some (.int 40 t))
    (cC : C8.Cal P w K mg base 2 "is_cube" spIsCube []) : C8.Met P w K mg base 3 CR "take_product" (spTakeProduct CT CR) [] := by
  have sc : FnScope ["self", "words"] ["self", "words"] (C8.fnScope sTakeProduct) := C8.fnScope_by (by decide +kernel)
  obtain ⟨tm, mp⟩ := mp
  refine C8.met0 RC.cl me F b sc (fun vs H Q E h => ?_) (fun cdv A outer s H vs Q E hr h => ?_)
  · obtain ⟨n, r, l, wl, t, H0, chs, cov, c, rfl, _⟩ := h
    rfl
  · obtain ⟨n, r, l, wl, t, H0, chs, cov, c, rfl, R, hw, h4, hc, h40, k⟩ := h
    refine ⟨_, pss_cons (ps_if (PW.pt (pw_or (pt_cmpR op_ne (pe_callB call_len_seq (by rfl) T.len PySem.boot_len (pa_cons (pv 1) pa_nil)) pe_int (nomark _))
        (pw_or (pt_cmpR op_ne (pe_ix ix_list (pv 1) pe_int (fun _ _ => rfl)) pe_str (nomark _))
        (pw_or1 (pt_cmpR op_eq (pe_callB call_len_seq (by rfl) T.len PySem.boot_len (pa_cons (pe_fld (pv 0) rfl) pa_nil)) (pe_glob (v := .int 40) (by rfl) mp ⟨_, rfl⟩) (nomark _)))))) (pss_one ps_never) pss_nil)
      (pss_cons (ps_if (pt_not (pt_val (C8.pe_c cC hr (by decide) (by rfl) (pa_cons (pe_ix ix_list (pv 1) pe_int (fun _ _ => rfl)) (pa_cons (pe_fld (pe_fld (pv 0) rfl) rfl) pa_nil))))) (pss_one ps_never) pss_nil)
      (pss_cons (ps_expr (pe_bm PySem.F.plainAttrs_list PySem.F.slot_list_append PySem.F.type_list_append mt_append (pe_fld (pv 0) rfl) (pa_cons (pe_ix ix_list (pv 1) pe_int (fun _ _ => rfl)) pa_nil)))
      (pss_one (ps_ret pe_bl)))), ?_⟩
    have at0 : atI (txs [q "product", c]) 0 = some (.str (S (q "product"))) := rfl
    have at1 : atI (txs [q "product", c]) 1 = some (.str (S c)) := rfl
    obtain ⟨h1, h2, h3, dr, tv, cv, cs, a1, a2, a3, a4, a5, ⟨ca, rfl, a6⟩, a7⟩ := id R
    obtain ⟨T0, rfl, dT, hT⟩ := a5 rfl
    obtain ⟨ncl, hca⟩ := a7 ca rfl
    refine ⟨_, rfl, wl, _, rfl, .inl (.inl (.inl hw)), rfl, _, rfl, iteNS rfl ?_⟩
    refine ⟨_, rfl, wl, _, _, _, rfl, rfl, .inl (.inl hw), at0, rfl, _, rfl, ?_⟩
    refine iteNS (by rw [lit "product" (l := q "product") rfl]) ?_
    have el : (txs cov).length = cov.length := List.length_map ..
    refine ⟨_, rfl, r, CR, dr, _, _, rfl, a1, RC.cl, RC.cubes, rfs_lb (.ref T0) l (.ref ca), ca, _, rfl, .inl (.inl (.inl a6)), rfl, _, rfl, iteDF (fun z => by have z' := V.int.inj z; omega) ?_⟩
    refine ⟨_, rfl, wl, _, _, _, rfl, rfl, .inl (.inl hw), at1, _, rfl, r, CR, dr, _, _, rfl, a1, RC.cl, RC.table, rfs_lt (.ref T0) l (.ref ca), T0, CT, dT, _, _, rfl, hT, TC.cl, TC.n, tfs_n t n, n, c, rfl, hc, h4, fun H2 e2 => ⟨true, rfl, iteF ?_⟩⟩
    refine ⟨_, rfl, r, CR, dr, _, _, rfl, e2 _ _ a1, RC.cl, RC.cubes, rfs_lb (.ref T0) l (.ref ca), .inl ⟨rfl, _, .inl (.inl (e2 _ _ a6))⟩, _, rfl, wl, _, _, _, rfl, rfl, .inl (.inl (e2 _ _ hw)), at1, ca, _, _, rfl, rfl, e2 _ _ a6, small1000 (by omega), ?_⟩
    have nrc : r ≠ ca := ne_of a1 a6 (by intro z; cases z)
    have ntc : T0 ≠ ca := ne_of hT a6 (by intro z; cases z)
    refine k _ ⟨Ex.mut (h1.trans e2) hca, h2, h3, dr, _, _, cs, by rw [upd_ne nrc]; exact e2 _ _ a1, by rw [upd_ne ncl.symm]; exact e2 _ _ a2, ⟨a3.len, fun i c ch' z1 z2 => ?_⟩, fun z => (nomatch z), fun _ => ⟨T0, rfl, dT, by rw [upd_ne ntc]; exact e2 _ _ hT⟩, ⟨ca, rfl, ?_⟩, a7⟩
    · have z3 := (a3.ex e2).at_ i c ch' z1 z2
      show upd H2 ca _ c = _
      rw [upd_ne (ne_of z3 (e2 _ _ a6) (by intro z; cases z))]
      exact z3
    · rw [upd_same]
      unfold txs
      rw [List.map_append] <;> rfl
end
end Sc

namespace Sc
open PySem L2
open Evl (Ex Ev)
/-- one line moves the reader's state -/
def Step (n : Nat) (t : L) (tab : Bool) (chs : List (L × L)) (cov : Option (List L)) (line : L) (tab' : Bool) (chs' : List (L × L)) (cov' : Option (List L)) : Prop :=
  (tab = false ∧ chs = [] ∧ cov = none ∧ line = lineT t ∧ tab' = true ∧ chs' = [] ∧ cov' = none) ∨
  (∃ ch, tab = true ∧ cov = none ∧ GoodCh n t ch ∧ chs.length < 8 ∧ line = lineC ch ∧ tab' = true ∧ chs' = chs ++ [ch] ∧ cov' = none) ∨
  (tab = true ∧ cov = none ∧ line = q "cover" ∧ tab' = true ∧ chs' = chs ∧ cov' = some []) ∨
  ∃ cs c, tab = true ∧ cov = some cs ∧ Cb n c ∧ cs.length < 40 ∧ line = lineP c ∧ tab' = true ∧ chs' = chs ∧ cov' = some (cs ++ [c])
def Run (n : Nat) (t : L) : List L → Bool → List (L × L) → Option (List L) → List (L × L) → Option (List L) → Prop
  | [], tab, chs, cov, F, G => tab = true ∧ chs = F ∧ cov = G
  | l :: ls, tab, chs, cov, F, G => ∃ tab' chs' cov', Step n t tab chs cov l tab' chs' cov' ∧ Run n t ls tab' chs' cov' F G
theorem run_cubes {n : Nat} {t : L} {chs : List (L × L)} : ∀ (cs cs0 : List L), (∀ c ∈ cs, Cb n c) → cs0.length + cs.length ≤ 40 → Run n t (cs.map lineP) true chs (some cs0) chs (some (cs0 ++ cs))
  | [], cs0, _, _ => ⟨rfl, rfl, by rw [List.append_nil]⟩
  | c :: cs, cs0, h, hl => by
    rw [List.length_cons] at hl
    refine ⟨true, chs, some (cs0 ++ [c]), .inr (.inr (.inr ⟨cs0, c, rfl, rfl, h c List.mem_cons_self, by omega, rfl, rfl, rfl, rfl⟩)), ?_⟩
    have ih := run_cubes (n := n) (t := t) (chs := chs) cs (cs0 ++ [c]) (fun x hx => h x (List.mem_cons_of_mem _ hx)) (by rw [List.length_append]; show cs0.length + 1 + _ ≤ _; omega)
    rw [List.append_assoc] at ih
    exact ih
theorem run_cov {n : Nat} {t : L} {chs : List (L × L)} : ∀ {cov : Option (List L)}, (∀ cs, cov = some cs → cs.length ≤ 40) → (∀ cs, cov = some cs → ∀ c ∈ cs, Cb n c) → Run n t (covLines cov) true chs none chs cov
  | none, _, _ => ⟨rfl, rfl, rfl⟩
  | some cs, h1, h2 => ⟨true, chs, some [], .inr (.inr (.inl ⟨rfl, rfl, rfl, rfl, rfl, rfl⟩)), run_cubes cs [] (h2 cs rfl) (by have := h1 cs rfl; show 0 + _ ≤ _; omega)⟩
theorem run_chs {n : Nat} {t : L} {cov : Option (List L)} (h1 : ∀ cs, cov = some cs → cs.length ≤ 40) (h2 : ∀ cs, cov = some cs → ∀ c ∈ cs, Cb n c) : ∀ (chs chs0 : List (L × L)), (∀ ch ∈ chs, GoodCh n t ch) → chs0.length + chs.length ≤ 8 → Run n t (chs.map lineC ++ covLines cov) true chs0 none (chs0 ++ chs) cov
  | [], chs0, _, _ => by
    rw [List.append_nil]
    exact run_cov h1 h2
  | ch :: chs, chs0, h, hl => by
    rw [List.length_cons] at hl
    refine ⟨true, chs0 ++ [ch], none, .inr (.inl ⟨ch, rfl, rfl, h ch List.mem_cons_self, by omega, rfl, rfl, rfl, rfl⟩), ?_⟩
    have ih := run_chs h1 h2 chs (chs0 ++ [ch]) (fun x hx => h x (List.mem_cons_of_mem _ hx)) (by rw [List.length_append]; show chs0.length + 1 + _ ≤ _; omega)
    rw [List.append_assoc] at ih
    exact ih
theorem run_sheet {n : Nat} {t : L} {chs : List (L × L)} {cov : Option (List L)} (g : GoodSheet n t chs cov) : Run n t (linesOf t chs cov) false [] none chs cov :=
  ⟨true, [], none, .inl ⟨rfl, rfl, rfl, rfl, rfl, rfl, rfl⟩, run_chs g.many g.cubes chs [] g.good (by have := g.few; show 0 + _ ≤ _; omega)⟩
/-- the words of a line, the lines of a text -/
theorem spl_txs {line : L} {c : Nat} {parts : List L} (h : line = TL.joinL [c] parts) (ne : parts ≠ []) (no : ∀ p ∈ parts, c ∉ p) (hc : c < 256) : (Txt.split (S line) (S [c])).map V.str = txs parts := by
  rw [SX.split_S (by simp) (by simp [hc]), h, TL.spl_join ne no, txs_map]
theorem q_no (w : String) (h : (32 ∈ q w) = False) : 32 ∉ q w := fun z => by rw [h] at z; exact z
theorem txs_eq_cover {a b c : L} : PyData.eqv (.list ([a, b, c].map fun r => PyData.str (S r))) (.list ([q "cover"].map fun r => PyData.str (S r))) = false := by
  simp only [List.map_cons, List.map_nil, PyData.eqv, PyData.eqvAll, Bool.and_false]
theorem asc_q {w : String} (h : (q w).all (fun x => decide (x < 1114112)) = true) : ∀ x ∈ q w, x < 1114112 := fun x hx => of_decide_eq_true (List.all_eq_true.mp h x hx)
theorem asc_sg {c : L} (h : ∀ x ∈ c, Sgn x) : ∀ x ∈ c, x < 1114112 := fun x hx => by
  rcases h x hx with rfl | rfl | rfl <;> decide
section
variable {P : Program} {w : World} {K : PySem.W.Frag} {mg : Str → Option Value} {base : Heap} {CT CD CR : Addr}
abbrev sTake : Stmt := inClass (top 40) 1
def spTake (CT CR : Addr) : Sp := fun vs H Q _ => ∃ (n : Nat) (r l : Addr) (t : L) (H0 : Hp) (tab : Bool) (chs : List (L × L)) (cov : Option (List L)) (line : L) (tab' : Bool) (chs' : List (L × L)) (cov' : Option (List L)),
  vs = [.ref r, .str (S line)] ∧ RdS CT CR H0 H r l n t tab chs cov ∧ Tb n t ∧ line.length ≤ 22 ∧ Step n t tab chs cov line tab' chs' cov' ∧ ∀ H', RdS CT CR H0 H' r l n t tab' chs' cov' → Q (.bl true) H'
theorem ok_take {f : Addr} {fd : FuncData} (RC : RdC K CR) (me : Meth K CR "take" f) (F : C8.Fun K "take" "SheetReader.take" sTake f fd) (b : Binds K fd ["self", "line"] [])
    (mT : C8.Met P w K mg base 3 CR "take_table" (spTakeTable CT CR) []) (mC : C8.Met P w K mg base 7 CR "take_change" (spTakeChange CT CR) []) (mP : C8.Met P w K mg base 3 CR "take_product" (spTakeProduct CT CR) []) : C8.Met P w K mg base 8 CR "take" (spTake CT CR) [] := by
  have sc : FnScope ["self", "line", "words"] ["self", "line"] (C8.fnScope sTake) := C8.fnScope_by (by decide +kernel)
  refine C8.met0 RC.cl me F b sc (fun vs H Q E h => ?_) (fun cdv A outer s H vs Q E hr h => ?_)
  · obtain ⟨n, r, l, t, H0, tab, chs, cov, line, tab', chs', cov', rfl, _⟩ := h
    rfl
  · obtain ⟨n, r, l, t, H0, tab, chs, cov, line, tab', chs', cov', rfl, R, ht, hl, st, k⟩ := h
    have hu : (A.deeper (PyProof.Rows.envOfC "SheetReader.take" (C8.fnScope sTake) s.heap.objs.size f cdv)).units + 64 < cLine := hr.units
    refine ⟨_, pss_cons (ps_set (i := 2) sc.nd rfl (.inl rfl) (pe_split (pv 1) pe_str))
      (pss_cons (ps_if (pt_cmpR op_isN (pe_fld (pv 0) rfl) pe_non (nomark _)) (pss_one (ps_ret (C8.pe_mt mT hr (by decide) (pv 0) (pa_cons (pv 2) pa_nil)))) pss_nil)
      (pss_cons (ps_if (pt_cmpR op_notN (pe_fld (pv 0) rfl) pe_non (nomark _)) (pss_one (ps_ret (C8.pe_mt mP hr (by decide) (pv 0) (pa_cons (pv 2) pa_nil)))) pss_nil)
      (pss_cons (ps_if (pt_cmpR (op_eqD hu) (pv 2) (pe_lst (pa_cons pe_str pa_nil)) (nomark _)) (pss_cons (ps_fld (pv 0) (pe_lst pa_nil) rfl) (pss_one (ps_ret pe_bl))) pss_nil)
      (pss_one (ps_ret (C8.pe_mt mC hr (by decide) (pv 0) (pa_cons (pv 2) pa_nil))))))), ?_⟩
    have e32 : Str.ofString " " = S [32] := lit " " (l := [32]) (by decide)
    refine ⟨_, rfl, ⟨_, rfl⟩, S line, Str.ofString " ", rfl, rfl, by rw [e32]; rfl, by rw [SX.S_len]; exact Nat.le_of_lt (small1000 (by omega)), fun p hp => ?_⟩
    rw [e32]
    have R1 := R.up (Ex.new (o := .lst ((Txt.split (S line) (S [32])).map V.str)) hp)
    obtain ⟨h1, h2, h3, dr, tv, cv, cs, a1, a2, a3, a4, a5, a6, a7⟩ := id R1
    have nm1 : (rfs tv l cv).lookup ("take_table" : Str) = none := rfs_no tv l cv (by decide +kernel) (by decide +kernel) (by decide +kernel)
    have nm2 : (rfs tv l cv).lookup ("take_change" : Str) = none := rfs_no tv l cv (by decide +kernel) (by decide +kernel) (by decide +kernel)
    have nm3 : (rfs tv l cv).lookup ("take_product" : Str) = none := rfs_no tv l cv (by decide +kernel) (by decide +kernel) (by decide +kernel)
    have no1 : ∀ {w : String}, (q w).contains 32 = false → 32 ∉ q w := fun {w} z zm => by
      rw [List.contains_iff_mem.mpr zm] at z
      cases z
    refine ⟨_, rfl, r, CR, dr, _, _, rfl, a1, RC.cl, RC.table, rfs_lt tv l cv, rfl, _, rfl, ?_⟩
    rcases st with ⟨rfl, rfl, rfl, rfl, rfl, rfl, rfl⟩ | ⟨ch, rfl, rfl, g, h8, rfl, rfl, rfl, rfl⟩ | ⟨rfl, rfl, rfl, rfl, rfl, rfl⟩ | ⟨cs1, c, rfl, rfl, hc, h40, rfl, rfl, rfl, rfl⟩
    · refine iteD (a4 rfl) ?_
      refine ⟨_, rfl, r, dr, _, rfl, a1, nm1, _, rfl, n, r, l, p, t, H0, rfl, R1, ?_, ht, k⟩
      rw [upd_same, spl_txs (lineT_join t) (by simp) (fun x hx => ?_) (by decide)]
      rcases List.mem_cons.mp hx with rfl | hx
      · exact no1 (by decide)
      · rw [List.mem_singleton.mp hx]
        exact cb_no ht.sg (.inr rfl)
    all_goals
      obtain ⟨T0, rfl, hT0⟩ := a5 rfl
      refine iteDF (fun z => by cases z) ?_
      refine ⟨_, rfl, r, CR, dr, _, _, rfl, a1, RC.cl, RC.cubes, rfs_lb (.ref T0) l cv, rfl, _, rfl, ?_⟩
    · -- a change
      obtain rfl : cv = .non := a6
      refine iteNS rfl ?_
      have hs : (Txt.split (S (lineC ch)) (S [32])).map V.str = txs [q "change", ch.1, ch.2] := spl_txs (lineC_join ch) (by simp) (fun x hx => by
        rcases List.mem_cons.mp hx with rfl | hx
        · exact no1 (by decide)
        rcases List.mem_cons.mp hx with rfl | hx
        · exact cb_no g.a.cb.sg (.inr rfl)
        · rw [List.mem_singleton.mp hx]
          exact cb_no g.b.cb.sg (.inr rfl)) (by decide)
      rw [hs] at R1 a1 a2 ⊢
      refine ⟨_, rfl, one_le _, fun p2 hp2 => ?_⟩
      have e2 := Ex.new (o := .lst [.str (Str.ofString "cover")]) hp2
      have hw : upd H p (.lst (txs [q "change", ch.1, ch.2])) p = some (.lst (txs [q "change", ch.1, ch.2])) := upd_same
      refine ⟨.list ([q "change", ch.1, ch.2].map fun r => PyData.str (S r)), .list ([q "cover"].map fun r => PyData.str (S r)), .lst (Evl.sq_of (e2 _ _ hw)) (dp_strs _), .lst (xs := txs [q "cover"]) (Evl.sq_of ?_) (dp_strs _), shaped_strsN ?_, shaped_strsN ?_, _, rfl, ?_⟩
      · rw [upd_same, lit "cover" (l := q "cover") rfl]
        rfl
      · intro x hx
        rcases List.mem_cons.mp hx with rfl | hx
        · exact asc_q (by decide)
        rcases List.mem_cons.mp hx with rfl | hx
        · exact asc_sg g.a.cb.sg
        · rw [List.mem_singleton.mp hx]
          exact asc_sg g.b.cb.sg
      · intro x hx
        rw [List.mem_singleton.mp hx]
        exact asc_q (by decide)
      rw [txs_eq_cover]
      refine iteF ?_
      exact ⟨_, rfl, r, dr, _, rfl, e2 _ _ a1, nm2, _, rfl, n, r, l, p, t, H0, chs, ch, rfl, R1.up e2, e2 _ _ hw, ht, g, h8, k⟩
    · -- cover
      obtain rfl : cv = .non := a6
      refine iteNS rfl ?_
      have hs : (Txt.split (S (q "cover")) (S [32])).map V.str = txs [q "cover"] := spl_txs (parts := [q "cover"]) rfl (by simp) (fun x hx => by
        rw [List.mem_singleton.mp hx]
        exact no1 (by decide)) (by decide)
      rw [hs] at R1 a1 a2 ⊢
      refine ⟨_, rfl, one_le _, fun p2 hp2 => ?_⟩
      have e2 := Ex.new (o := .lst [.str (Str.ofString "cover")]) hp2
      have hw : upd H p (.lst (txs [q "cover"])) p = some (.lst (txs [q "cover"])) := upd_same
      have hsh : SeqAt.shaped (.list ([q "cover"].map fun r => PyData.str (S r))) = true := shaped_strsN (fun x hx => by
        rw [List.mem_singleton.mp hx]
        exact asc_q (by decide))
      refine ⟨.list ([q "cover"].map fun r => PyData.str (S r)), .list ([q "cover"].map fun r => PyData.str (S r)), .lst (Evl.sq_of (e2 _ _ hw)) (dp_strs _), .lst (xs := txs [q "cover"]) (Evl.sq_of ?_) (dp_strs _), hsh, hsh, _, rfl, ?_⟩
      · rw [upd_same, lit "cover" (l := q "cover") rfl]
        rfl
      rw [SeqAt.eqv_refl _ (SeqAt.canLay_of_shaped hsh)]
      refine iteT ?_
      refine ⟨Nat.zero_le _, fun p3 hp3 => ?_⟩
      have e3 := Ex.new (o := .lst []) hp3
      obtain ⟨g1, g2, g3, dr', tv', cv', cs', b1, b2, b3, b4, b5, b6, b7⟩ := (R1.up e2).up e3
      obtain rfl : cv' = .non := b6
      obtain ⟨T1, rfl, dT1, hT1⟩ := b5 rfl
      refine ⟨_, rfl, r, CR, dr', _, rfl, b1, RC.cl, RC.cubes, by show 3 < 1000; decide, ?_⟩
      rw [rfs_cubes]
      have nrl : l ≠ r := ne_of b2 b1 (by intro z; cases z)
      have npr : p3 ≠ r := fun z => by
        have := (R1.up e2).at_
        obtain ⟨_, _, _, _, c1, _⟩ := this
        rw [z, c1] at hp3
        cases hp3
      have npl : p3 ≠ l := fun z => by
        have := (R1.up e2).at_
        obtain ⟨_, _, _, _, _, c1, _⟩ := this
        rw [z, c1] at hp3
        cases hp3
      have nTr : T1 ≠ r := ne_of hT1 b1 (by intro z; injection z with _ _ z; have z2 := congrArg (fun (fs : List (Str × V)) => List.lookup ("n" : Str) fs) z; simp only [tfs_n] at z2; rw [rfs_no _ _ _ (by decide +kernel) (by decide +kernel) (by decide +kernel)] at z2; cases z2)
      refine k _ ⟨Ex.mut g1 g2, g2, g3, dr', _, .ref p3, cs', upd_same, by rw [upd_ne nrl]; exact b2, ⟨b3.len, fun i c ch' z1 z2 => ?_⟩, fun z => (nomatch z), fun _ => ⟨T1, rfl, dT1, by rw [upd_ne nTr]; exact hT1⟩, ⟨p3, rfl, ?_⟩, fun a z => ?_⟩
      · have z3 := b3.at_ i c ch' z1 z2
        show upd _ r _ c = _
        rw [upd_ne (ne_of z3 b1 (by intro z; cases z))]
        exact z3
      · rw [upd_ne npr, upd_same]
        rfl
      · obtain rfl := V.ref.inj z
        exact ⟨npl, Evl.fresh_back ((R1.up e2).ex) hp3⟩
    · -- a product
      obtain ⟨ca, rfl, a6⟩ := a6
      refine iteNF (fun z => by cases z) ?_
      refine ⟨_, rfl, r, dr, _, rfl, a1, nm3, _, rfl, n, r, l, p, t, H0, _, cs1, c, rfl, R1, ?_, ht.hi, hc, h40, k⟩
      rw [upd_same, spl_txs (lineP_join c) (by simp) (fun x hx => ?_) (by decide)]
      rcases List.mem_cons.mp hx with rfl | hx
      · exact no1 (by decide)
      · rw [List.mem_singleton.mp hx]
        exact cb_no hc.sg (.inr rfl)
end
end Sc

namespace Sc
open PySem L2
open Evl (Ex Ev)
section
variable {P : Program} {w : World} {K : PySem.W.Frag} {mg : Str → Option Value} {base : Heap} {CT CD CR : Addr}
abbrev sRead : Stmt := top 41
/-- a new tuple of a demand and of the cover, a new list or None -/
def spRead (CT CD : Addr) : Sp := fun vs H Q _ => ∃ (n : Nat) (t : L) (chs : List (L × L)) (cov : Option (List L)), vs = [.str (S (sheet t chs cov))] ∧ GoodSheet n t chs cov ∧
  ∀ H' p d v, Ex H H' → H p = none → H' p = some (.tup [.ref d, v]) → DemAt CT CD H' d t n chs → CovAt H' v cov → (∀ a, v = .ref a → H a = none) → Q (.ref p) H'
theorem ok_read {f fi : Addr} {fd fdi : FuncData} (RC : RdC K CR) (F : C8.Def K mg "read_sheet" sRead f fd) (b : Binds K fd ["text"] []) (T : Blt mg)
    (MR : Mk K CR fi) (mR : mg "SheetReader" = some (.ref CR)) (FR : FnOk P w K mg base C8.CX0 1 fi fdi ["self"] (spRdInit CT CR)) (bR : Binds K fdi ["self"] [])
    (mK : C8.Met P w K mg base 8 CR "take" (spTake CT CR) []) (mD : C8.Mak P w K mg base 8 "Demand" CD (spDemInit CT CD) []) : C8.Cal P w K mg base 10 "read_sheet" (spRead CT CD) [] := by
  have sc : FnScope ["text", "lines", "rest", "reader", "at", "line"] ["text"] (C8.fnScope sRead) := C8.fnScope_by (by decide +kernel)
  refine C8.cal0 F b .nil sc (fun vs H Q E h => ?_) (fun cdv A outer s H vs Q E hr h => ?_)
  · obtain ⟨n, t, chs, cov, rfl, _⟩ := h
    rfl
  · obtain ⟨n, t, chs, cov, rfl, g, k⟩ := h
    refine ⟨_, pss_cons (ps_if (pt_not (pt_val (pe_callB isi_str (by rfl) T.isi (by decide +kernel) (pa_cons (pv 0) (pa_cons (pe_bltn (v := .ty "str") (by rfl) T.str (by decide +kernel) rfl) pa_nil))))) (pss_one ps_never) pss_nil)
      (pss_cons (ps_asg (pe_split (pv 0) pe_str) (pg_star (i := 1) (j := 2) rfl sc.nd rfl (.inl rfl) rfl (.inl rfl) (.inl rfl) (.inl rfl)))
      (pss_cons (ps_set (i := 3) sc.nd rfl (.inl rfl) (pe_make0 (E := C8.E0) MR FR (hr.mono (by decide)) (by rfl) mR bR .nil C8.pass0))
      (pss_cons (ps_for PassesOwn.never rfl (pi_enumL2 (by rfl) T.enu (pa_cons (pv 1) (pa_cons pe_int pa_nil))) (pg_tup rfl (pgs_cons (pg_name (i := 4) sc.nd rfl (.inl rfl)) (pgs_cons (pg_name (i := 5) sc.nd rfl (.inl rfl)) pgs_nil)))
        (pss_one (ps_if (pt_not (pt_val (C8.pe_mt mK hr (by decide) (pv 3) (pa_cons (pv 5) pa_nil)))) (pss_one ps_never) pss_nil)))
      (pss_cons (ps_if (PW.pt (pw_or (pt_cmpR op_ne (pv 2) pe_str (nomark _)) (pw_or1 (pt_not (pt_truth (pv 1) (fun _ => rfl)))))) (pss_one ps_never) pss_nil)
      (pss_one (ps_ret (pe_tup (pa_cons (C8.pe_mk mD hr (by decide) (by rfl) (pa_cons (pe_fld (pv 3) rfl) (pa_cons (pe_fld (pv 3) rfl) pa_nil))) (pa_cons (pe_fld (pv 3) rfl) pa_nil))))))))), ?_⟩
    have e10 : Str.ofString "\n" = S [10] := lit "\n" (l := [10]) (by decide)
    have many := lines_many g
    refine ⟨_, rfl, _, rfl, true, rfl, iteF ?_⟩
    refine ⟨_, rfl, ⟨_, rfl⟩, S (sheet t chs cov), Str.ofString "\n", rfl, rfl, by rw [e10]; rfl, by rw [SX.S_len]; have := sheet_len g; have e := sizeLine_eq; omega, fun p hp => ?_⟩
    rw [e10, spl_txs (sheet_join t chs cov) (by simp) (fun x hx => ?_) (by decide)]
    · have ea : txs (linesOf t chs cov ++ [[]]) = txs (linesOf t chs cov) ++ [.str (S [])] := (txs_app _ _).symm
      have e1 := Ex.new (o := .lst (txs (linesOf t chs cov ++ [[]]))) hp
      refine ⟨p, txs (linesOf t chs cov), .str (S []), rfl, by rw [← ea]; exact Evl.sq_of upd_same, fun pl hpl => ?_⟩
      generalize hH1 : upd (upd H p (.lst (txs (linesOf t chs cov ++ [[]])))) pl (.lst (txs (linesOf t chs cov))) = H1
      have e01 : Ex H H1 := by rw [← hH1]; exact e1.trans (Ex.new hpl)
      have hl1 : H1 pl = some (.lst (txs (linesOf t chs cov))) := by rw [← hH1, upd_same]
      clear hH1 hpl
      -- reader = SheetReader()
      refine fun r dx hx hd hne => ⟨n, r, dx, t, H1, rfl, made_ex hx hd (fun _ _ z _ => z), hx, upd_same, fun H2 l R => ⟨rfl, ?_⟩⟩
      -- the loop
      refine ⟨_, rfl, pl, _, 1, rfl, by decide, by decide, Evl.sq_of (R.ex _ _ hl1), ?_⟩
      have hlen : (txs (linesOf t chs cov)).length = (linesOf t chs cov).length := List.length_map ..
      refine for_en (K := K) (walk_enL (K := K) (k0 := 1) (a := pl) (xs := txs (linesOf t chs cov))) (fun i σ' H' => ∃ tab' chs' cov' u v, RdS CT CR H1 H' r l n t tab' chs' cov' ∧ Run n t ((linesOf t chs cov).drop i) tab' chs' cov' chs cov ∧
        σ' = [some (.str (S (sheet t chs cov))), some (.ref pl), some (.str (S [])), some (.ref r), u, v]) ⟨false, [], none, none, none, R, run_sheet g, rfl⟩ (fun i σ' H' _ ⟨_, _, _, _, _, p, _⟩ => Evl.sq_of (p.ex _ _ hl1)) ?_ ?_
      · rintro i x σ' H' T' hx ⟨tab', chs', cov', u, v, R', run, rfl⟩ hT'
        obtain ⟨ln, hln, rfl⟩ := txs_at hx
        have hi := (List.getElem?_eq_some_iff.mp hln).1
        have hd2 : (linesOf t chs cov).drop i = ln :: (linesOf t chs cov).drop (i + 1) := by
          rw [List.drop_eq_getElem_cons hi]
          congr 1
          have := List.getElem?_eq_getElem hi
          rw [hln] at this
          exact (Option.some.inj this).symm
        rw [hd2] at run
        obtain ⟨tab2, chs2, cov2, st, run2⟩ := run
        have e3 := Ex.new (o := .tup [.int (1 + (i : Nat)), .str (S ln)]) hT'
        have R3 := R'.up e3
        obtain ⟨dr, tv, cv, cs, b1, _⟩ := R3.at_
        exact ⟨_, rfl, r, dr, _, rfl, b1, rfs_no tv l cv (by decide +kernel) (by decide +kernel) (by decide +kernel), _, rfl, n, r, l, t, H1, tab', chs', cov', ln, tab2, chs2, cov2, rfl, R3, g.tb, line_len g ln (List.mem_of_getElem? hln), st,
          fun H4 R4 => ⟨true, rfl, iteF ⟨tab2, chs2, cov2, _, _, R4, run2, rfl⟩⟩⟩
      · rintro σ' H' ⟨tab', chs', cov', u, v, R', run, rfl⟩
        rw [hlen, List.drop_length] at run
        obtain ⟨rfl, rfl, rfl⟩ := run
        have hl2 := R'.ex _ _ hl1
        obtain ⟨h1, h2, h3, dr, tv, cv, cs, a1, a2, a3, a4, a5, a6, a7⟩ := id R'
        obtain ⟨T0, rfl, hT0⟩ := a5 rfl
        refine ⟨_, rfl, rfl, _, rfl, iteNS (by rw [lit "" (l := []) rfl]) ?_⟩
        refine ⟨_, rfl, true, .inl ⟨_, Evl.sq_of hl2, rfl⟩, iteF ?_⟩
        refine ⟨_, rfl, r, CR, dr, _, _, rfl, a1, RC.cl, RC.table, rfs_lt (.ref T0) l cv, _, rfl, r, CR, dr, _, _, rfl, a1, RC.cl, RC.changes, rfs_lc (.ref T0) l cv, fun d dd hd1 hd2 hdn => ?_⟩
        have em := made_ex (H' := upd (upd H' dd (.own d)) d (.ins CD dd [])) hd1 hd2 (fun _ _ z _ => z)
        refine ⟨n, d, dd, T0, l, t, cs, chs', rfl, upd_same, hT0.ex em, g.tb, em _ _ a2, a3.ex em, g.few, g.good, fun H5 kH hD => ⟨rfl, ?_⟩⟩
        have e5 := made_ex hd1 hd2 kH
        refine ⟨_, rfl, r, CR, dr, _, _, rfl, e5 _ _ a1, RC.cl, RC.cubes, rfs_lb (.ref T0) l cv, two_le _ _, fun pt hpt => ?_⟩
        have e6 := Ex.new (o := .tup [.ref d, cv]) hpt
        have eAll := (e01.trans h1).trans (e5.trans e6)
        exact k _ pt d cv eAll (Evl.fresh_back ((e01.trans h1).trans e5) hpt) upd_same (hD.ex e6) (a6.ex (e5.trans e6)) (fun a z => Evl.fresh_back e01 (a7 a z).2)
    · rcases List.mem_append.mp hx with hx | hx
      · exact lines_no g x hx
      · rw [List.mem_singleton.mp hx]
        exact fun z => nomatch z
end
end Sc

namespace Sc
open PySem L2
open Evl (Ex Ev)
/-- all that stood but p stands -/
def Kp (p : Addr) (H H' : Hp) : Prop := ∀ b o, b ≠ p → H b = some o → H' b = some o
theorem Kp.refl (p : Addr) (H : Hp) : Kp p H H := fun _ _ _ h => h
theorem Kp.trans {p : Addr} {H H1 H2 : Hp} (h : Kp p H H1) (k : Kp p H1 H2) : Kp p H H2 := fun b o n z => k b o n (h b o n z)
theorem Kp.of {p : Addr} {H H' : Hp} (e : Ex H H') : Kp p H H' := fun b o _ z => e b o z
theorem Kp.upd {p : Addr} {H : Hp} {o : HO} : Kp p H (upd H p o) := fun b u n z => by rw [upd_ne n]; exact z
theorem Kp.ex {p : Addr} {G H H' : Hp} (k : Kp p H H') (e : Ex G H) (n : G p = none) : Ex G H' := fun b o z => k b o (fun q => by rw [q, n] at z; cases z) (e b o z)
theorem Kp.fresh {p : Addr} {H H' : Hp} {a : Addr} (k : Kp p H H') (h : H' a = none) (n : a ≠ p) : H a = none := by
  cases e : H a with
  | none => rfl
  | some o =>
    have := k a o n e
    rw [h] at this
    cases this
/-- the source's list -/
abbrev srcL (b : Addr) (i : Nat) (h m x : Int) : HO := .lst [.ref b, .int ((i : Nat) : Int), .int h, .int m, .int x]
def SrcAt (H : Hp) (p b : Addr) : Prop := ∃ (ns : List Int) (i : Nat) (h m x : Int), H p = some (srcL b i h m x) ∧ H b = some (.lst (ns.map V.int)) ∧ b ≠ p ∧ i ≤ ns.length ∧ ns.length ≤ 63
theorem SrcAt.ex {H H' : Hp} {p b : Addr} (s : SrcAt H p b) (e : Ex H H') : SrcAt H' p b := by
  obtain ⟨ns, i, h, m, x, h1, h2, h3, h4, h5⟩ := s
  exact ⟨ns, i, h, m, x, e _ _ h1, e _ _ h2, h3, h4, h5⟩
theorem SrcAt.upd {H : Hp} {p b c : Addr} {o : HO} (s : SrcAt H p b) (h1 : c ≠ p) (h2 : c ≠ b) : SrcAt (upd H c o) p b := by
  obtain ⟨ns, i, h, m, x, g1, g2, g3, g4, g5⟩ := s
  exact ⟨ns, i, h, m, x, by rw [upd_ne h1.symm]; exact g1, by rw [upd_ne h2.symm]; exact g2, g3, g4, g5⟩
theorem SrcAt.ne {H : Hp} {p b c : Addr} (s : SrcAt H p b) (h : H c = none) : c ≠ p ∧ c ≠ b := by
  obtain ⟨ns, i, x1, m, x, g1, g2, g3, g4, g5⟩ := s
  exact ⟨fun z => (by rw [z, g1] at h; cases h), fun z => (by rw [z, g2] at h; cases h)⟩
theorem Kp.mut {p c : Addr} {H H' : Hp} {o : HO} (k : Kp p H H') (h : H c = none) : Kp p H (L2.upd H' c o) := fun a u n z => by
  rw [upd_ne (fun q => by rw [q, h] at z; cases z)]
  exact k a u n z
theorem walk_ints {K : PySem.W.Frag} {a : Addr} {l : List Int} : Walk (Itl K a) l.length (fun H => SqL K H a (l.map V.int)) (fun i H x H' => H' = H ∧ ∃ r, l[i]? = some r ∧ x = .int r) := by
  have e : (l.map V.int).length = l.length := List.length_map ..
  have w := walk_list (K := K) (a := a) (xs := l.map V.int)
  rw [e] at w
  refine w.mono (fun H h => h) fun i H x H' _ _ y => ⟨y.1, ?_⟩
  have z := y.2
  rw [List.getElem?_map] at z
  cases e2 : l[i]? with
  | none =>
    rw [e2] at z
    cases z
  | some r =>
    rw [e2] at z
    exact ⟨r, rfl, (Option.some.inj z).symm⟩
section
variable {P : Program} {w : World} {K : PySem.W.Frag} {mg : Str → Option Value} {base : Heap}
abbrev sSource : Stmt := top 43
def spSource (K : PySem.W.Frag) : Sp := fun vs H Q _ => ∃ (a : Addr) (ns : List Int), vs = [.ref a] ∧ SqL K H a (ns.map V.int) ∧ ns.length ≤ 63 ∧ ∀ H' p b, Ex H H' → H p = none → SrcAt H' p b → Q (.ref p) H'
theorem ok_source {f : Addr} {fd : FuncData} (F : C8.Def K mg "_law_source" sSource f fd) (b : Binds K fd ["_law_script"] []) (T : Blt mg) : C8.Cal P w K mg base 1 "_law_source" (spSource K) [] := by
  have sc : FnScope ["_law_script", "_law_cell"] ["_law_script"] (C8.fnScope sSource) := C8.fnScope_by (by decide +kernel)
  refine C8.cal0 F b .nil sc (fun vs H Q E h => ?_) (fun cdv A outer s H vs Q E hr h => ?_)
  · obtain ⟨a, ns, rfl, _⟩ := h
    rfl
  · obtain ⟨a, ns, rfl, hs, h63, k⟩ := h
    refine ⟨_, pss_one (ps_ret (pe_lst (pa_cons (pe_lc (own := [("_law_cell", 1)]) (g := gName 1) (tt := tYes) rfl sc.nd (pi_list (pe_slice sl_list (pv 0) po_none (po_some pe_int))) (blkOk_by (N := ["_law_script", "_law_cell"]) (sc := C8.fnScope sSource) (by decide +kernel))
        (fun _ _ _ _ _ => pg_name (i := 1) sc.nd rfl (.inl rfl)) (fun _ _ _ _ _ => pts_nil) (fun _ _ _ _ _ => pe_callTy call_int1 (by rfl) T.int (by decide +kernel) (pa_cons (pv 1) pa_nil)))
        (pa_cons pe_int (pa_cons pe_int (pa_cons pe_int (pa_cons pe_int pa_nil))))))), ?_⟩
    have ecut : ∃ ms : List Int, cutV (ns.map V.int) none (some 63) = ms.map V.int ∧ ms.length ≤ 63 := by
      refine ⟨(ns.drop (HT.sIx (ns.map V.int).length 0 none)).take (HT.sIx (ns.map V.int).length (ns.map V.int).length (some 63) - HT.sIx (ns.map V.int).length 0 none), ?_, ?_⟩
      · unfold cutV
        rw [List.map_take, List.map_drop]
      · rw [List.length_take, List.length_drop]
        omega
    obtain ⟨ms, em, hm⟩ := ecut
    refine ⟨_, rfl, 63, rfl, a, _, rfl, hs, fun p hp => ?_⟩
    rw [em]
    have e1 := Ex.new (o := .lst (ms.map V.int)) hp
    have hp1 : upd H p (.lst (ms.map V.int)) p = some (.lst (ms.map V.int)) := upd_same
    refine ⟨p, rfl, ⟨_, Evl.sq_of hp1⟩, fun D hD => ?_⟩
    refine lc_ex ms (walk_ints (K := K) (a := p)) (fun r => some (.int r)) hD (by omega) (fun H2 e => Evl.sq_of (e _ _ hp1)) (fun i r x H2 H3 Kn Nn hr2 e y hk _ => ?_) (fun H2 e2 hl => ?_)
    · obtain ⟨rfl, r', hr', rfl⟩ := y
      rw [hr2] at hr'
      obtain rfl := Option.some.inj hr'
      exact ⟨rfl, yes_ ⟨_, rfl, .inl ⟨_, rfl, hk _ _ rfl (Ex.refl _)⟩⟩⟩
    · rw [fm_map] at hl
      refine ⟨Nat.le_of_lt (small1000 (by show 5 ≤ 1000; decide)), fun q0 hq => ?_⟩
      have e12 := e1.trans e2
      have e3 := Ex.new (o := srcL D 0 0 0 1) hq
      refine k _ q0 D (e12.trans e3) (Evl.fresh_back e12 hq) ⟨ms, 0, 0, 0, 1, upd_same, e3 _ _ hl, fun z => ?_, Nat.zero_le _, hm⟩
      rw [z, hq] at hl
      cases hl
abbrev sDraw : Stmt := top 44
/-- a number below the limit; only the source's list is written -/
def spDraw : Sp := fun vs H Q _ => ∃ (p b : Addr) (lim : Nat), vs = [.ref p, .int ((lim : Nat) : Int)] ∧ SrcAt H p b ∧ 1 ≤ lim ∧ lim < 1000 ∧ ∀ H' (r : Nat), Kp p H H' → SrcAt H' p b → r < lim → Q (.int ((r : Nat) : Int)) H'
theorem cmul_r {i j : Int} (h1 : -(2 ^ 64) < j) (h2 : j < 2 ^ 64) : CMul i j := .inr ⟨h1, h2⟩
theorem ok_draw {f : Addr} {fd : FuncData} (F : C8.Def K mg "_law_draw" sDraw f fd) (b : Binds K fd ["_law_source_here", "_law_limit"] []) (T : Blt mg) : C8.Cal P w K mg base 1 "_law_draw" spDraw [] := by
  have sc : FnScope ["_law_source_here", "_law_limit", "_law_cell", "_law_value_here", "_law_number"] ["_law_source_here", "_law_limit"] (C8.fnScope sDraw) := C8.fnScope_by (by decide +kernel)
  refine C8.cal0 F b .nil sc (fun vs H Q E h => ?_) (fun cdv A outer s H vs Q E hr h => ?_)
  · obtain ⟨p, b0, lim, rfl, _⟩ := h
    rfl
  · obtain ⟨p, b0, lim, rfl, ⟨ns, i, h0, m, x, hp, hb, hne, hi, h63⟩, h1, h2, k⟩ := h
    refine ⟨_, pss_cons (ps_augS (pv 0) pe_int pget_list pe_int ip_add set_list)
      (C8.pss_cut (ps_if (PW.pt (pw_and (pt_cmpR op_eq (pe_ix ix_list (pv 0) pe_int (fun _ _ => rfl)) pe_int (nomark _))
          (pw_and1 (pt_cmpR op_lt (pe_ix ix_list (pv 0) pe_int (fun _ _ => rfl)) (pe_callB call_len_seq (by rfl) T.len PySem.boot_len (pa_cons (pe_ix ix_list (pv 0) pe_int (fun _ _ => rfl)) pa_nil)) (nomark _)))))
        (pss_cons (ps_set (i := 2) sc.nd rfl (.inl rfl) (pe_ix ix_list (pe_ix ix_list (pv 0) pe_int (fun _ _ => rfl)) (pe_ix ix_list (pv 0) pe_int (fun _ _ => rfl)) (fun _ _ => rfl)))
        (pss_cons (ps_augS (pv 0) pe_int pget_list pe_int ip_add set_list)
        (pss_one (ps_if (pt_cmpR op_ge (pv 2) (pe_op op_pow pe_int pe_int) (nomark _))
          (pss_one (ps_asg (pv 2) (pg_sub (pv 0) pe_int set_list)))
          (pss_one (ps_asg (pe_op op_mod (pe_callTy call_int1 (by rfl) T.int (by decide +kernel) (pa_cons (pe_op op_add (pe_op op_add (pe_op op_mul (pe_ix ix_list (pv 0) pe_int (fun _ _ => rfl)) pe_int) (pv 2)) pe_int) pa_nil)) pe_int) (pg_sub (pv 0) pe_int set_list)))))))
        pss_nil)
      (pss_cons (ps_if (pt_cmpR op_gt (pe_ix ix_list (pv 0) pe_int (fun _ _ => rfl)) pe_int (nomark _))
        (pss_cons (ps_set (i := 3) sc.nd rfl (.inl rfl) (pe_op op_mod (pe_callTy call_int1 (by rfl) T.int (by decide +kernel) (pa_cons (pe_ix ix_list (pv 0) pe_int (fun _ _ => rfl)) pa_nil)) (pv 1)))
        (pss_cons (ps_asg (pe_op op_fdiv (pe_ix ix_list (pv 0) pe_int (fun _ _ => rfl)) (pv 1)) (pg_sub (pv 0) pe_int set_list))
        (pss_one (ps_ret (pv 3))))) pss_nil)
      (pss_cons (ps_set (i := 4) sc.nd rfl (.inl rfl) (pe_op op_mod (pe_callTy call_int1 (by rfl) T.int (by decide +kernel) (pa_cons (pe_op op_mul (pe_op op_add (pe_op op_add (pe_ix ix_list (pv 0) pe_int (fun _ _ => rfl)) (pe_op op_mul pe_int (pe_ix ix_list (pv 0) pe_int (fun _ _ => rfl)))) pe_int) pe_int) pa_nil)) pe_int))
      (pss_cons (ps_set (i := 4) sc.nd rfl (.inl rfl) (pe_op op_mod (pe_callTy call_int1 (by rfl) T.int (by decide +kernel) (pa_cons (pe_op op_mul (pv 4) (pe_op op_add (pe_op op_fdiv (pv 4) pe_int) pe_int)) pa_nil)) pe_int))
      (pss_cons (ps_set (i := 4) sc.nd rfl (.inl rfl) (pe_op op_mod (pe_callTy call_int1 (by rfl) T.int (by decide +kernel) (pa_cons (pe_op op_mul (pv 4) (pe_op op_add (pe_op op_fdiv (pv 4) pe_int) pe_int)) pa_nil)) pe_int))
      (pss_one (ps_ret (pe_op op_mod (pe_callTy call_int1 (by rfl) T.int (by decide +kernel) (pa_cons (pv 4) pa_nil)) (pv 1))))))))), ?_⟩
    refine ⟨_, rfl, p, _, 3, .int m, rfl, rfl, Evl.sq_of hp, by decide, rfl, m, 1, rfl, rfl, p, _, 3, 3, rfl, rfl, hp, rfl, ?_⟩
    have hb1 : upd H p (srcL b0 i h0 (m + 1) x) b0 = some (.lst (ns.map V.int)) := by rw [upd_ne hne]; exact hb
    have hp1 : upd H p (srcL b0 i h0 (m + 1) x) p = some (srcL b0 i h0 (m + 1) x) := upd_same
    have k1 : Kp p H (upd H p (srcL b0 i h0 (m + 1) x)) := Kp.upd
    show (C8.tCut _ _) _ _ (upd H p (srcL b0 i h0 (m + 1) x))
    generalize upd H p (srcL b0 i h0 (m + 1) x) = H1 at hb1 hp1 k1
    refine ⟨fun σ' H' => (∃ v, σ' = [some (.ref p), some (.int ((lim : Nat) : Int)), v, none, none]) ∧ Kp p H H' ∧ SrcAt H' p b0, ?_, ?_⟩
    · refine ⟨_, rfl, p, _, _, _, rfl, rfl, Evl.sq_of hp1, (rfl : atI [V.ref b0, .int ((i : Nat) : Int), .int h0, .int (m + 1), .int x] 2 = some (.int h0)), rfl, _, rfl, ?_⟩
      have no : (∃ v, [some (V.ref p), some (V.int ((lim : Nat) : Int)), none, none, none] = [some (V.ref p), some (V.int ((lim : Nat) : Int)), v, none, none]) ∧ Kp p H H1 ∧ SrcAt H1 p b0 := ⟨⟨_, rfl⟩, k1, ns, i, h0, m + 1, x, hp1, hb1, hne, hi, h63⟩
      refine ite2 (fun _ => ?_) (fun _ => iteF no)
      refine ⟨_, rfl, p, _, _, _, rfl, rfl, Evl.sq_of hp1, (rfl : atI [V.ref b0, .int ((i : Nat) : Int), .int h0, .int (m + 1), .int x] 1 = some (.int ((i : Nat) : Int))), _, rfl, p, _, _, _, rfl, rfl, Evl.sq_of hp1, (rfl : atI [V.ref b0, .int ((i : Nat) : Int), .int h0, .int (m + 1), .int x] 0 = some (.ref b0)), b0, _, rfl, .inl (Evl.sq_of hb1), _, _, rfl, rfl, _, rfl, ?_⟩
      refine ite2 (fun hlt => ?_) (fun _ => no)
      have hlt' : i < ns.length := by
        have := of_decide_eq_true hlt
        rw [List.length_map] at this
        omega
      refine ⟨_, rfl, p, _, _, _, rfl, rfl, Evl.sq_of hp1, (rfl : atI [V.ref b0, .int ((i : Nat) : Int), .int h0, .int (m + 1), .int x] 0 = some (.ref b0)), _, rfl, p, _, _, _, rfl, rfl, Evl.sq_of hp1, (rfl : atI [V.ref b0, .int ((i : Nat) : Int), .int h0, .int (m + 1), .int x] 1 = some (.int ((i : Nat) : Int))), b0, _, _, .int ns[i], rfl, rfl, Evl.sq_of hb1, atI_nat (by rw [List.getElem?_map, List.getElem?_eq_getElem hlt'] <;> rfl), ?_⟩
      refine ⟨_, rfl, p, _, 1, .int ((i : Nat) : Int), rfl, rfl, Evl.sq_of hp1, by decide, rfl, ((i : Nat) : Int), 1, rfl, rfl, p, _, 1, 1, rfl, rfl, hp1, rfl, ?_⟩
      have hb2 : upd H1 p (srcL b0 (i + 1) h0 (m + 1) x) b0 = some (.lst (ns.map V.int)) := by rw [upd_ne hne]; exact hb1
      have hp2 : upd H1 p (srcL b0 (i + 1) h0 (m + 1) x) p = some (srcL b0 (i + 1) h0 (m + 1) x) := upd_same
      have k2 : Kp p H (upd H1 p (srcL b0 (i + 1) h0 (m + 1) x)) := k1.trans Kp.upd
      have e2 : (HO.lst ([V.ref b0, .int ((i : Nat) : Int), .int h0, .int (m + 1), .int x].set 1 (.int (((i : Nat) : Int) + 1)))) = srcL b0 (i + 1) h0 (m + 1) x := rfl
      rw [e2]
      generalize upd H1 p (srcL b0 (i + 1) h0 (m + 1) x) = H2 at hb2 hp2 k2
      refine ⟨_, rfl, 10, 18, rfl, rfl, ⟨by decide, by decide, by decide⟩, _, _, rfl, rfl, _, rfl, ite2 (fun _ => ?_) (fun _ => ?_)⟩
      · refine ⟨_, rfl, _, rfl, p, _, 2, 2, rfl, rfl, hp2, rfl, ⟨_, rfl⟩, k2.trans Kp.upd, ns, i + 1, ns[i], m + 1, x, upd_same, by rw [upd_ne hne]; exact hb2, hne, hlt', h63⟩
      · refine ⟨_, rfl, p, _, _, _, rfl, rfl, Evl.sq_of hp2, (rfl : atI [V.ref b0, .int (((i + 1 : Nat) : Nat) : Int), .int h0, .int (m + 1), .int x] 4 = some (.int x)), x, 69069, rfl, rfl, cmul_r (by decide) (by decide), _, rfl, _, _, rfl, rfl, _, _, rfl, rfl, .inl ⟨_, rfl, ?_⟩⟩
        refine ⟨_, _, rfl, rfl, (show (0 : Int) < 2147483629 by decide), _, rfl, p, _, 4, 4, rfl, rfl, hp2, rfl, ⟨_, rfl⟩, k2.trans Kp.upd, ns, i + 1, h0, m + 1, _, upd_same, by rw [upd_ne hne]; exact hb2, hne, hlt', h63⟩
    · rintro σ' H3 ⟨⟨v, rfl⟩, k3, ns, i, h0, m, x, hp, hb, hne, hi, h63⟩
      have at2 : atI [V.ref b0, .int ((i : Nat) : Int), .int h0, .int m, .int x] 2 = some (.int h0) := rfl
      have at3 : atI [V.ref b0, .int ((i : Nat) : Int), .int h0, .int m, .int x] 3 = some (.int m) := rfl
      have at4 : atI [V.ref b0, .int ((i : Nat) : Int), .int h0, .int m, .int x] 4 = some (.int x) := rfl
      have hl0 : (0 : Int) < ((lim : Nat) : Int) := by omega
      have md : ∀ y : Int, ∃ r : Nat, y % ((lim : Nat) : Int) = ((r : Nat) : Int) ∧ r < lim := fun y => by
        have a1 := Int.emod_nonneg y (show ((lim : Nat) : Int) ≠ 0 by omega)
        have a2 := Int.emod_lt_of_pos y hl0
        exact ⟨(y % ((lim : Nat) : Int)).toNat, (Int.toNat_of_nonneg a1).symm, by omega⟩
      refine ⟨_, rfl, p, _, _, _, rfl, rfl, Evl.sq_of hp, at2, _, _, rfl, rfl, _, rfl, ite2 (fun _ => ?_) (fun _ => ?_)⟩
      · refine ⟨_, rfl, p, _, _, _, rfl, rfl, Evl.sq_of hp, at2, .inl ⟨_, rfl, _, rfl, _, _, rfl, rfl, hl0, ?_⟩⟩
        refine ⟨_, rfl, p, _, _, _, rfl, rfl, Evl.sq_of hp, at2, _, rfl, _, _, rfl, rfl, ⟨hl0, by omega⟩, _, rfl, p, _, 2, 2, rfl, rfl, hp, rfl, _, rfl, ?_⟩
        obtain ⟨r, e, hr2⟩ := md h0
        show Q (.int (h0 % ((lim : Nat) : Int))) _
        rw [e]
        exact k _ r (k3.trans Kp.upd) ⟨ns, i, _, m, x, upd_same, by rw [upd_ne hne]; exact hb, hne, hi, h63⟩ hr2
      · refine ⟨_, rfl, p, _, _, _, rfl, rfl, Evl.sq_of hp, at4, _, rfl, p, _, _, _, rfl, rfl, Evl.sq_of hp, at3, 7919, m, rfl, rfl, .inl ⟨by decide, by decide⟩, _, _, rfl, rfl, _, _, rfl, rfl, _, _, rfl, rfl, cmul_r (by decide) (by decide), .inl ⟨_, rfl, _, _, rfl, rfl, (show (0 : Int) < 2147483647 by decide), ?_⟩⟩
        have bd : ∀ y : Int, ∀ M : Int, 0 < M → M < 2 ^ 40 → CMul (y % M) (y % M / 1009 + 69621) ∧ CMul (y % M) (y % M / 2003 + 40692) := fun y M hM hM2 => by
          have a1 := Int.emod_nonneg y (show M ≠ 0 by omega)
          have a2 := Int.emod_lt_of_pos y hM
          exact ⟨.inl ⟨by omega, by omega⟩, .inl ⟨by omega, by omega⟩⟩
        refine ⟨_, rfl, _, rfl, _, 1009, rfl, rfl, ⟨by decide, by decide⟩, _, _, rfl, rfl, _, _, rfl, rfl, (bd _ _ (by decide) (by decide)).1, .inl ⟨_, rfl, _, _, rfl, rfl, (show (0 : Int) < 2147483647 by decide), ?_⟩⟩
        refine ⟨_, rfl, _, rfl, _, 2003, rfl, rfl, ⟨by decide, by decide⟩, _, _, rfl, rfl, _, _, rfl, rfl, (bd _ _ (by decide) (by decide)).2, .inl ⟨_, rfl, _, _, rfl, rfl, (show (0 : Int) < 2147483399 by decide), ?_⟩⟩
        refine ⟨_, rfl, .inl ⟨_, rfl, _, rfl, _, _, rfl, rfl, hl0, ?_⟩⟩
        refine (fun (y : Int) => ?_ : ∀ y : Int, Q (.int (y % ((lim : Nat) : Int))) H3) _
        obtain ⟨r, e, hr2⟩ := md y
        show Q (.int (_ % ((lim : Nat) : Int))) H3
        rw [e]
        exact k H3 r k3 ⟨ns, i, h0, m, x, hp, hb, hne, hi, h63⟩ hr2
end
end Sc

namespace Sc
open PySem L2
open Evl (Ex Ev)
theorem stepP_app (a b : List L) (s : Nat) : stepP (a ++ b) s = stepP a s ++ stepP b s := by
  unfold stepP
  rw [List.flatMap_append]
theorem pts_take {c : L} {i s : Nat} (h : c[i]? = some s) : pts (c.take (i + 1)) = stepF bits (pts (c.take i)) s := by
  have ht : c.take (i + 1) = c.take i ++ [s] := by rw [List.take_succ, h] <;> rfl
  unfold pts fill
  rw [ht, List.foldl_append] <;> rfl
theorem span_at : ∀ {a b : L} {i x y : Nat}, a[i]? = some x → b[i]? = some y → (span a b)[i]? = some (if x = y then x else 45) := by
  intro a b i x y h1 h2
  unfold span
  rw [List.getElem?_zipWith, h1, h2]
theorem take_at {α : Type} {l : List α} {i : Nat} {x : α} (h : l[i]? = some x) : l.take (i + 1) = l.take i ++ [x] := by rw [List.take_succ, h] <;> rfl
section
variable {P : Program} {w : World} {K : PySem.W.Frag} {mg : Str → Option Value} {base : Heap}
abbrev sPoints : Stmt := top 45
def spPoints : Sp := fun vs H Q _ => ∃ (n : Nat) (c : L), vs = [.str (S c)] ∧ Cb n c ∧ n ≤ 4 ∧ ∀ H' p, Ex H H' → H p = none → H' p = some (.lst (txs (pts c))) → Q (.ref p) H'
theorem ok_points {f : Addr} {fd : FuncData} (F : C8.Def K mg "_law_points" sPoints f fd) (b : Binds K fd ["_law_cube_here"] []) : C8.Cal P w K mg base 1 "_law_points" spPoints [] := by
  have sc : FnScope ["_law_cube_here", "_law_rows", "_law_sign", "_law_wide", "_law_row"] ["_law_cube_here"] (C8.fnScope sPoints) := C8.fnScope_by (by decide +kernel)
  refine C8.cal0 F b .nil sc (fun vs H Q E h => ?_) (fun cdv A outer s H vs Q E hr h => ?_)
  · obtain ⟨n, c, rfl, _⟩ := h
    rfl
  · obtain ⟨n, c, rfl, hc, h4, k⟩ := h
    refine ⟨_, pss_cons (ps_set (i := 1) sc.nd rfl (.inl rfl) (pe_lst (pa_cons pe_str pa_nil)))
      (pss_cons (ps_for PassesOwn.never rfl (pi_str (pv 0)) (pg_name (i := 2) sc.nd rfl (.inl rfl))
        (pss_cons (ps_set (i := 3) sc.nd rfl (.inl rfl) (pe_lst pa_nil))
        (pss_cons (ps_for PassesOwn.never rfl (pi_list (pv 1)) (pg_name (i := 4) sc.nd rfl (.inl rfl))
          (pss_cons (ps_if (pt_cmpR op_ne (pv 2) pe_str (nomark _)) (pss_one (ps_expr (pe_bm PySem.F.plainAttrs_list PySem.F.slot_list_append PySem.F.type_list_append mt_append (pv 3) (pa_cons (pe_op op_add_str (pv 4) pe_str) pa_nil)))) pss_nil)
          (pss_one (ps_if (pt_cmpR op_ne (pv 2) pe_str (nomark _)) (pss_one (ps_expr (pe_bm PySem.F.plainAttrs_list PySem.F.slot_list_append PySem.F.type_list_append mt_append (pv 3) (pa_cons (pe_op op_add_str (pv 4) pe_str) pa_nil)))) pss_nil))))
        (pss_one (ps_set (i := 1) sc.nd rfl (.inl rfl) (pv 3))))))
      (pss_one (ps_ret (pv 1)))), ?_⟩
    refine ⟨one_le _, fun p0 hp0 => ?_⟩
    refine s_forS (p := c) (Evl.ev_var rfl) (fun i σ' H' => Ex H H' ∧ ∃ a v2 v3 v4, σ' = [some (.str (S c)), some (.ref a), v2, v3, v4] ∧ H a = none ∧ H' a = some (.lst (txs (pts (c.take i))))) (fun H1 e => ⟨(Ex.new hp0).trans e, p0, none, none, none, rfl, hp0, ?_⟩) ?_ ?_
    · rw [e p0 _ upd_same]
      rfl
    · rintro i s σ' H' hi ⟨e, a, v2, v3, v4, rfl, ha, hH⟩
      have hsg : Sgn s := hc.sg s (List.mem_of_getElem? hi)
      refine ⟨Nat.zero_le _, fun wd hw => ?_⟩
      have nwa : a ≠ wd := fun z => by
        rw [← z, hH] at hw
        cases hw
      have hwH : H wd = none := Evl.fresh_back e hw
      have hrows : (pts (c.take i)).length ≤ 16 := pts_len (n := min i n) (by rw [List.length_take, hc.len]) (by omega)
      have hrl : ∀ r ∈ pts (c.take i), r.length ≤ 4 := fun r hr => by
        have := (pts_pt (n := min i n) ⟨by rw [List.length_take, hc.len], fun x hx => hc.sg x (List.mem_of_mem_take hx)⟩ hr).len
        omega
      refine ⟨_, rfl, a, rfl, ⟨_, Evl.sq_of (by rw [upd_ne nwa]; exact hH)⟩, for_txs (l := pts (c.take i)) (fun j σ' H' => Ex H H' ∧ ∃ v4, σ' = [some (.str (S c)), some (.ref a), some (.str (S [s])), some (.ref wd), v4] ∧ H' a = some (.lst (txs (pts (c.take i)))) ∧ H' wd = some (.lst (txs (stepP ((pts (c.take i)).take j) s))))
        ⟨e.trans (Ex.new hw), _, rfl, by rw [upd_ne nwa]; exact hH, by rw [upd_same] <;> rfl⟩ (fun _ _ _ _ q => q.2.choose_spec.2.1) ?_ ?_⟩
      · rintro j r σ' H2 hj ⟨e2, v5, rfl, ha2, hw2⟩
        have hrm : r ∈ pts (c.take i) := List.mem_of_getElem? hj
        have hr4 := hrl r hrm
        have hlen : (stepP ((pts (c.take i)).take j) s).length ≤ 32 := by
          rw [stepP_eq hsg]
          have := stepF_len ((pts (c.take i)).take j) s
          have h2 : ((pts (c.take i)).take j).length ≤ 16 := by rw [List.length_take]; omega
          omega
        have e1 : stepP ((pts (c.take i)).take (j + 1)) s = stepP ((pts (c.take i)).take j) s ++ stepP [r] s := by rw [take_at hj, stepP_app]
        have l0 : Str.ofString "0" = S [48] := lit "0" (by decide)
        have l1 : Str.ofString "1" = S [49] := lit "1" (by decide)
        have sz : ∀ {z : Nat}, (S r).length + (S [z]).length ≤ sizeLine := fun {z} => Nat.le_of_lt (small1000 (by rw [SX.S_len]; show r.length + 1 ≤ 1000; omega))
        have tt : ∀ (xs : List L) (y : L), txs xs ++ [.str (S y)] = txs (xs ++ [y]) := fun xs y => txs_app xs [y]
        refine ⟨_, rfl, rfl, _, rfl, ?_⟩
        rw [l0, l1]
        rcases hsg with rfl | rfl | rfl
        · refine iteNF (fun z => by have := SX.S_inj (V.str.inj z); cases this) ?_
          refine ⟨_, rfl, .inl ⟨rfl, _, Evl.sq_of hw2⟩, _, rfl, _, _, rfl, rfl, sz, wd, _, _, rfl, rfl, hw2, small1000 (by rw [txs_len]; omega), ?_⟩
          rw [SX.S_cat, tt]
          refine ⟨_, rfl, rfl, _, rfl, iteNF (fun z => by have := SX.S_inj (V.str.inj z); cases this) ?_⟩
          refine ⟨_, rfl, .inl ⟨rfl, _, Evl.sq_of upd_same⟩, _, rfl, _, _, rfl, rfl, sz, wd, _, _, rfl, rfl, upd_same, small1000 (by rw [txs_len, List.length_append]; show _ + 1 ≤ 1000; omega), ?_⟩
          rw [SX.S_cat, tt]
          refine ⟨Ex.mut (Ex.mut e2 hwH) hwH, _, rfl, by rw [upd_ne nwa, upd_ne nwa]; exact ha2, ?_⟩
          rw [upd_same, e1, List.append_assoc]
          rfl
        · refine iteNF (fun z => by have := SX.S_inj (V.str.inj z); cases this) ?_
          refine ⟨_, rfl, .inl ⟨rfl, _, Evl.sq_of hw2⟩, _, rfl, _, _, rfl, rfl, sz, wd, _, _, rfl, rfl, hw2, small1000 (by rw [txs_len]; omega), ?_⟩
          rw [SX.S_cat, tt]
          refine ⟨_, rfl, rfl, _, rfl, iteNS rfl ?_⟩
          refine ⟨Ex.mut e2 hwH, _, rfl, by rw [upd_ne nwa]; exact ha2, ?_⟩
          rw [upd_same, e1]
          rfl
        · refine iteNS rfl ?_
          refine ⟨_, rfl, rfl, _, rfl, iteNF (fun z => by have := SX.S_inj (V.str.inj z); cases this) ?_⟩
          refine ⟨_, rfl, .inl ⟨rfl, _, Evl.sq_of hw2⟩, _, rfl, _, _, rfl, rfl, sz, wd, _, _, rfl, rfl, hw2, small1000 (by rw [txs_len]; omega), ?_⟩
          rw [SX.S_cat, tt]
          refine ⟨Ex.mut e2 hwH, _, rfl, by rw [upd_ne nwa]; exact ha2, ?_⟩
          rw [upd_same, e1]
          rfl
      · rintro σ' H2 ⟨e2, v5, rfl, ha2, hw2⟩
        refine ⟨_, rfl, e2, wd, _, _, _, rfl, hwH, ?_⟩
        rw [hw2, List.take_length, stepP_eq hsg, pts_take hi]
    · rintro σ' H' ⟨e, a, v2, v3, v4, rfl, ha, hH⟩
      rw [List.take_length] at hH
      exact ⟨_, rfl, k H' a e ha hH⟩
abbrev sHolds : Stmt := top 46
def spHolds : Sp := fun vs H Q _ => ∃ (n : Nat) (c p : L), vs = [.str (S c), .str (S p)] ∧ c.length = n ∧ p.length = n ∧ n ≤ 4 ∧ ∀ H' b, Ex H H' → Q (.bl b) H'
theorem ok_holds {f : Addr} {fd : FuncData} (F : C8.Def K mg "_law_holds" sHolds f fd) (b : Binds K fd ["_law_cube_here", "_law_other"] []) (T : Blt mg) : C8.Cal P w K mg base 1 "_law_holds" spHolds [] := by
  have sc : FnScope ["_law_cube_here", "_law_other", "_law_k"] ["_law_cube_here", "_law_other"] (C8.fnScope sHolds) := C8.fnScope_by (by decide +kernel)
  refine C8.cal0 F b .nil sc (fun vs H Q E h => ?_) (fun cdv A outer s H vs Q E hr h => ?_)
  · obtain ⟨n, c, p, rfl, _⟩ := h
    rfl
  · obtain ⟨n, c, p, rfl, h1, h2, h4, k⟩ := h
    refine ⟨_, pss_cons (ps_for PassesOwn.never rfl (pi_range1 (by rfl) T.rng (pa_cons (pe_callB call_len_str (by rfl) T.len PySem.boot_len (pa_cons (pv 0) pa_nil)) pa_nil)) (pg_name (i := 2) sc.nd rfl (.inl rfl))
        (pss_one (ps_if (PW.pt (pw_and (pt_cmpR op_ne (pe_ix ix_str (pv 0) (pv 2) (fun _ _ => rfl)) pe_str (nomark _)) (pw_and1 (pt_cmpR op_ne (pe_ix ix_str (pv 0) (pv 2) (fun _ _ => rfl)) (pe_ix ix_str (pv 1) (pv 2) (fun _ _ => rfl)) (nomark _)))))
          (pss_one (ps_ret pe_bl)) pss_nil)))
      (pss_one (ps_ret pe_bl)), ?_⟩
    have hl : (S c).length = n := by rw [SX.S_len, h1]
    refine ⟨_, rfl, _, rfl, sz_S (by omega), _, rfl, by omega, by omega, ?_⟩
    refine for_it walk_range (fun i σ' H' => Ex H H' ∧ ∃ v, σ' = [some (.str (S c)), some (.str (S p)), v]) ⟨Ex.refl _, _, rfl⟩ (fun _ _ _ _ _ => trivial) ?_ ?_
    · rintro i x σ' H' H2 hi ⟨e, v, rfl⟩ ⟨rfl, rfl⟩
      have hi' : i < n := by omega
      have e0 : (0 : Int) + ((i : Nat) : Int) = ((i : Nat) : Int) := Int.zero_add _
      obtain ⟨ci, hci⟩ : ∃ z, c[i]? = some z := ⟨_, List.getElem?_eq_getElem (by omega)⟩
      have a1 : atI (S c).cps.toList ((0 : Int) + ((i : Nat) : Int)) = some ci := by rw [e0]; exact atI_nat (by simpa using hci)
      obtain ⟨pi, hpi⟩ : ∃ z, p[i]? = some z := ⟨_, List.getElem?_eq_getElem (by omega)⟩
      have a2 : atI (S p).cps.toList ((0 : Int) + ((i : Nat) : Int)) = some pi := by rw [e0]; exact atI_nat (by simpa using hpi)
      refine ⟨_, rfl, _, rfl, S c, _, _, rfl, rfl, sz_S (by omega), a1, rfl, _, rfl, ite2 (fun _ => ?_) (fun _ => iteF ⟨e, _, rfl⟩)⟩
      refine ⟨_, rfl, _, rfl, S c, _, _, rfl, rfl, sz_S (by omega), a1, _, rfl, _, rfl, S p, _, _, rfl, rfl, sz_S (by omega), a2, rfl, _, rfl, ite2 (fun _ => k _ _ e) (fun _ => ⟨e, _, rfl⟩)⟩
    · rintro σ' H' ⟨e, v, rfl⟩
      exact k H' _ e
abbrev sSpan : Stmt := top 48
def spSpan : Sp := fun vs H Q _ => ∃ (n : Nat) (c d : L), vs = [.str (S c), .str (S d)] ∧ c.length = n ∧ d.length = n ∧ n ≤ 4 ∧ ∀ H', Ex H H' → Q (.str (S (span c d))) H'
theorem ok_span {f : Addr} {fd : FuncData} (F : C8.Def K mg "_law_span" sSpan f fd) (b : Binds K fd ["_law_cube_here", "_law_other"] []) (T : Blt mg) : C8.Cal P w K mg base 1 "_law_span" spSpan [] := by
  have sc : FnScope ["_law_cube_here", "_law_other", "_law_signs", "_law_k"] ["_law_cube_here", "_law_other"] (C8.fnScope sSpan) := C8.fnScope_by (by decide +kernel)
  refine C8.cal0 F b .nil sc (fun vs H Q E h => ?_) (fun cdv A outer s H vs Q E hr h => ?_)
  · obtain ⟨n, c, d, rfl, _⟩ := h
    rfl
  · obtain ⟨n, c, d, rfl, h1, h2, h4, k⟩ := h
    refine ⟨_, pss_cons (ps_set (i := 2) sc.nd rfl (.inl rfl) (pe_lst pa_nil))
      (pss_cons (ps_for PassesOwn.never rfl (pi_range1 (by rfl) T.rng (pa_cons (pe_callB call_len_str (by rfl) T.len PySem.boot_len (pa_cons (pv 0) pa_nil)) pa_nil)) (pg_name (i := 3) sc.nd rfl (.inl rfl))
        (pss_one (ps_if (pt_cmpR op_eq (pe_ix ix_str (pv 0) (pv 3) (fun _ _ => rfl)) (pe_ix ix_str (pv 1) (pv 3) (fun _ _ => rfl)) (nomark _))
          (pss_one (ps_expr (pe_bm PySem.F.plainAttrs_list PySem.F.slot_list_append PySem.F.type_list_append mt_append (pv 2) (pa_cons (pe_ix ix_str (pv 0) (pv 3) (fun _ _ => rfl)) pa_nil))))
          (pss_one (ps_expr (pe_bm PySem.F.plainAttrs_list PySem.F.slot_list_append PySem.F.type_list_append mt_append (pv 2) (pa_cons pe_str pa_nil)))))))
      (pss_one (ps_ret (pe_join pe_str (pv 2))))), ?_⟩
    have hl : (S c).length = n := by rw [SX.S_len, h1]
    have hsl : (span c d).length = n := span_len h1 h2
    refine ⟨Nat.zero_le _, fun wd hw => ?_⟩
    refine ⟨_, rfl, _, rfl, sz_S (by omega), _, rfl, by omega, by omega, ?_⟩
    refine for_it walk_range (fun i σ' H' => i ≤ n ∧ Ex H H' ∧ ∃ v, σ' = [some (.str (S c)), some (.str (S d)), some (.ref wd), v] ∧ H' wd = some (.lst (txs (((span c d).take i).map fun k => [k])))) ⟨Nat.zero_le _, Ex.new hw, _, rfl, by rw [upd_same] <;> rfl⟩ (fun _ _ _ _ _ => trivial) ?_ ?_
    · rintro i x σ' H' H2 hi ⟨_, e, v, rfl, hl2⟩ ⟨rfl, rfl⟩
      have hi' : i < n := by omega
      have e0 : (0 : Int) + ((i : Nat) : Int) = ((i : Nat) : Int) := Int.zero_add _
      obtain ⟨ci, hci⟩ : ∃ z, c[i]? = some z := ⟨_, List.getElem?_eq_getElem (by omega)⟩
      have a1 : atI (S c).cps.toList ((0 : Int) + ((i : Nat) : Int)) = some ci := by rw [e0]; exact atI_nat (by simpa using hci)
      obtain ⟨di, hdi⟩ : ∃ z, d[i]? = some z := ⟨_, List.getElem?_eq_getElem (by omega)⟩
      have a2 : atI (S d).cps.toList ((0 : Int) + ((i : Nat) : Int)) = some di := by rw [e0]; exact atI_nat (by simpa using hdi)
      have hs : (span c d)[i]? = some (if ci = di then ci else 45) := span_at hci hdi
      have hsm : (txs (((span c d).take i).map fun k => [k])).length < sizeLine := small1000 (by rw [txs_len, List.length_map, List.length_take]; omega)
      have fin : ∀ z : Nat, (if ci = di then ci else 45) = z → txs (((span c d).take i).map fun k => [k]) ++ [.str (S [z])] = txs (((span c d).take (i + 1)).map fun k => [k]) := fun z hz => by
        rw [take_at hs, List.map_append, ← txs_app, hz] <;> rfl
      refine ⟨_, rfl, _, rfl, S c, _, _, rfl, rfl, sz_S (by omega), a1, _, rfl, _, rfl, S d, _, _, rfl, rfl, sz_S (by omega), a2, rfl, _, rfl, ?_⟩
      have ed : decide (V.str ⟨#[ci]⟩ = V.str ⟨#[di]⟩) = decide (ci = di) := vs1_inj
      rw [ed]
      by_cases hcd : ci = di
      · refine iteD hcd ?_
        refine ⟨_, rfl, .inl ⟨rfl, _, Evl.sq_of hl2⟩, _, rfl, _, rfl, S c, _, _, rfl, rfl, sz_S (by omega), a1, wd, _, _, rfl, rfl, hl2, hsm, hi', Ex.mut e hw, _, rfl, ?_⟩
        rw [upd_same]
        exact congrArg (fun z => some (HO.lst z)) (fin _ (if_pos hcd))
      · refine iteDF hcd ?_
        refine ⟨_, rfl, .inl ⟨rfl, _, Evl.sq_of hl2⟩, wd, _, _, rfl, rfl, hl2, hsm, hi', Ex.mut e hw, _, rfl, ?_⟩
        rw [upd_same, lit "-" (l := [45]) (by decide)]
        exact congrArg (fun z => some (HO.lst z)) (fin _ (if_neg hcd))
    · rintro σ' H' ⟨_, e, v, rfl, hl2⟩
      have en : ((S c).length : Int).toNat = n := by omega
      have et : (span c d).take ((S c).length : Int).toNat = span c d := by rw [en, ← hsl, List.take_length]
      rw [et] at hl2
      have ej : txs ((span c d).map fun k => [k]) = (((span c d).map fun k => [k]).map S).map V.str := txs_map _
      rw [ej] at hl2
      refine ⟨⟨_, rfl⟩, _, rfl, S [], wd, _, rfl, rfl, .inl (Evl.sq_of hl2), ?_, ?_⟩
      · have h2 : ((((span c d).map fun k => [k]).map S).map (·.length)).sum = (span c d).length := by
          rw [SX.lens, List.map_map]
          exact sum_ones _
        rw [h2, SX.S_len]
        show _ + _ * 0 ≤ _
        omega
      · rw [SX.join_S, join_nil, flat_ones]
        exact k H' e
abbrev sValue : Stmt := top 49
def spValue : Sp := fun vs H Q _ => ∃ (n : Nat) (t p : L), vs = [.str (S t), .str (S p)] ∧ Tb n t ∧ Pt n p ∧ ∀ H', Ex H H' → Q (.str (S [val t p])) H'
theorem ok_value {f : Addr} {fd : FuncData} (F : C8.Def K mg "_law_value" sValue f fd) (b : Binds K fd ["_law_text_here", "_law_point"] []) (T : Blt mg) : C8.Cal P w K mg base 1 "_law_value" spValue [] := by
  have sc : FnScope ["_law_text_here", "_law_point"] ["_law_text_here", "_law_point"] (C8.fnScope sValue) := C8.fnScope_by (by decide +kernel)
  refine C8.cal0 F b .nil sc (fun vs H Q E h => ?_) (fun cdv A outer s H vs Q E hr h => ?_)
  · obtain ⟨n, t, p, rfl, _⟩ := h
    rfl
  · obtain ⟨n, t, p, rfl, ht, hp, k⟩ := h
    refine ⟨_, pss_one (ps_ret (pe_ix ix_str (pv 0) (pe_callTy call_int_bin (by rfl) T.int (by decide +kernel) (pa_cons (pv 1) (pa_cons pe_int pa_nil))) (fun _ _ => rfl))), ?_⟩
    have h16 := pow_le ht.hi
    refine ⟨_, rfl, _, rfl, n, p, rfl, hp, ht.lo, ht.hi, S t, _, val t p, rfl, rfl, sz_S (by rw [ht.len]; omega), atI_nat (val_at ht hp), k H (Ex.refl H)⟩
end
end Sc

namespace Sc
open PySem L2
open Evl (Ex Ev)
theorem run_full : ∀ (n : Nat) (rows : List L), ((List.replicate n 45).foldl (stepF bits) rows).length = rows.length * 2 ^ n
  | 0, rows => by show rows.length = rows.length * 1; omega
  | n + 1, rows => by
    have h : (stepF bits rows 45).length = rows.length * 2 := by
      unfold stepF
      induction rows with
      | nil => rfl
      | cons r rs ih =>
        rw [List.flatMap_cons, List.length_append, List.length_map, List.length_cons, ih]
        show 2 + _ = _
        omega
    rw [List.replicate_succ, List.foldl_cons, run_full n, h, Nat.pow_succ, Nat.mul_assoc, Nat.mul_comm 2]
theorem pts_full (n : Nat) : (pts (List.replicate n 45)).length = 2 ^ n := by
  have := run_full n [[]]
  rw [show ([[]] : List L).length = 1 from rfl, Nat.one_mul] at this
  exact this
theorem cb_full (n : Nat) : Cb n (List.replicate n 45) := ⟨List.length_replicate, fun _ h => .inl (List.eq_of_mem_replicate h)⟩
/-- a sign of a literal -/
theorem sg_at {z : Str} {l : L} {r : Nat} (e : z = S l) (h : r < l.length) : atI z.cps.toList ((r : Nat) : Int) = some l[r] := by
  rw [e]
  exact atI_nat (by simp [List.getElem?_eq_getElem h])
/-- a comprehension that draws: n cubes, or signs -/
theorem lc_draw {J : It} {m : Nat} {Y : Nat → Hp → V → Hp → Prop} (wk : Walk J m (fun _ => True) Y) (hY : ∀ i H x H', Y i H x H' → H' = H) {p b D j : Nat} {te : TE} {vs : List Nat} {σ : L2.St} {H1 : Hp} {Qd : Hp → Prop} (Pr : L → Prop) (hD : H1 D = none) (hs : SrcAt H1 p b) (hm : m ≤ 1000)
    (hw : ∀ x, wipe ((wipe σ vs).set j (some x)) vs = wipe σ vs)
    (he : ∀ x H (Kn : V → Hp → Prop), SrcAt H p b → (∀ H' c, Kp p H H' → SrcAt H' p b → Pr c → Kn (.str (S c)) H') → te ((wipe σ vs).set j (some x)) H Kn)
    (hd : ∀ H cs, Kp p H1 H → SrcAt H p b → cs.length = m → (∀ c ∈ cs, Pr c) → H D = some (.lst (txs cs)) → Qd H) :
    ∃ W : Nat → Nat → Hp → Prop, (∃ m, W 0 m (upd H1 D (.lst []))) ∧ ∀ i m H, W i m H →
      (J.stop i H ∧ Qd H) ∨ (J.go i H ∧ ∃ Nx : Hp → Prop, (∀ H', Nx H' → ∃ m', m' < m ∧ W (i + 1) m' H') ∧ ∀ x H', J.yld i H x H' → gName j x (wipe σ vs) H' fun σ2 H2 => wipe σ2 vs = wipe σ vs ∧ tYes σ2 H2 fun b H3 =>
        if b = true then te σ2 H3 fun y H4 => ∃ acc, H4 D = some (.lst acc) ∧ acc.length < sizeLine ∧ Nx (upd H4 D (.lst (acc ++ [y]))) else Nx H3) := by
  obtain ⟨n1, n2⟩ := hs.ne hD
  refine lc_it wk (fun i H => Kp p H1 H ∧ SrcAt H p b ∧ ∃ cs : List L, cs.length = i ∧ (∀ c ∈ cs, Pr c) ∧ H D = some (.lst (txs cs))) ⟨(Kp.refl p H1).mut hD, hs.upd n1 n2, [], rfl, (fun _ h => nomatch h), upd_same⟩ (fun _ _ _ _ => trivial) (fun i x H H' hi ⟨k, s, cs, hl, hc, hH⟩ y => ?_) (fun H ⟨k, s, cs, hl, hc, hH⟩ => hd H cs k s hl hc hH)
  obtain rfl := hY _ _ _ _ y
  refine ⟨hw x, yes_ (he x H' _ s fun H2 c k2 s2 hp => ⟨_, k2 D _ n1 hH, small1000 (by rw [txs_len]; omega), (k.trans k2).mut hD, s2.upd n1 n2, cs ++ [c], by rw [List.length_append, hl] <;> rfl, fun z hz => ?_, by rw [upd_same]; exact congrArg (fun q => some (HO.lst q)) (txs_app cs [c])⟩)⟩
  rcases List.mem_append.mp hz with hz | hz
  · exact hc z hz
  · rw [List.mem_singleton.mp hz]
    exact hp
section
variable {P : Program} {w : World} {K : PySem.W.Frag} {mg : Str → Option Value} {base : Heap}
abbrev sSize : Stmt := top 50
def spSize : Sp := fun vs H Q _ => ∃ (p b : Addr), vs = [.ref p] ∧ SrcAt H p b ∧ ∀ H' (n : Nat), Kp p H H' → SrcAt H' p b → 1 ≤ n → n ≤ 4 → Q (.int ((n : Nat) : Int)) H'
theorem ok_size {f : Addr} {fd : FuncData} (F : C8.Def K mg "_law_size" sSize f fd) (b : Binds K fd ["_law_source_here"] []) (cD : C8.Cal P w K mg base 1 "_law_draw" spDraw []) : C8.Cal P w K mg base 2 "_law_size" spSize [] := by
  have sc : FnScope ["_law_source_here"] ["_law_source_here"] (C8.fnScope sSize) := C8.fnScope_by (by decide +kernel)
  refine C8.cal0 F b .nil sc (fun vs H Q E h => ?_) (fun cdv A outer s H vs Q E hr h => ?_)
  · obtain ⟨p, b0, rfl, _⟩ := h
    rfl
  · obtain ⟨p, b0, rfl, hs, k⟩ := h
    refine ⟨_, pss_one (ps_ret (pe_ix ix_list (pe_lst (pa_cons pe_int (pa_cons pe_int (pa_cons pe_int (pa_cons pe_int (pa_cons pe_int (pa_cons pe_int (pa_cons pe_int (pa_cons pe_int pa_nil))))))))) (C8.pe_c cD hr (by decide) (by rfl) (pa_cons (pv 0) (pa_cons pe_int pa_nil))) (fun _ _ => rfl))), ?_⟩
    refine ⟨Nat.le_of_lt (small1000 (by show 8 ≤ 1000; decide)), fun l hl => ?_⟩
    obtain ⟨n1, n2⟩ := hs.ne hl
    refine ⟨_, rfl, p, b0, 8, rfl, hs.upd n1 n2, by decide, by decide, fun H2 r k2 s2 hr8 => ?_⟩
    have hl2 := k2 l _ n1 upd_same
    have all : ∀ r, r < 8 → ∃ n : Nat, ([3, 2, 3, 1, 3, 4, 2, 3].map fun n : Nat => V.int ((n : Nat) : Int))[r]? = some (.int ((n : Nat) : Int)) ∧ 1 ≤ n ∧ n ≤ 4 := fun r hr => by
      have hm : ∀ n ∈ [3, 2, 3, 1, 3, 4, 2, 3], 1 ≤ n ∧ n ≤ 4 := by decide
      have hr' : r < [3, 2, 3, 1, 3, 4, 2, 3].length := hr
      exact ⟨[3, 2, 3, 1, 3, 4, 2, 3][r], by rw [List.getElem?_map, List.getElem?_eq_getElem hr'] <;> rfl, hm _ (List.getElem_mem hr')⟩
    obtain ⟨n, hn, n1', n4⟩ := all r hr8
    exact ⟨l, _, _, _, rfl, rfl, Evl.sq_of hl2, atI_nat hn, k H2 n (((Kp.refl p H).mut hl).trans k2) s2 n1' n4⟩
abbrev sCube : Stmt := top 51
def spCube : Sp := fun vs H Q _ => ∃ (p b : Addr) (n : Nat), vs = [.ref p, .int ((n : Nat) : Int)] ∧ SrcAt H p b ∧ n ≤ 4 ∧ ∀ H' c, Kp p H H' → SrcAt H' p b → Cb n c → Q (.str (S c)) H'
theorem ones_of : ∀ {cs : List L}, (∀ c ∈ cs, ∃ z, Sgn z ∧ c = [z]) → ∃ l : L, cs = l.map (fun k => [k]) ∧ ∀ z ∈ l, Sgn z
  | [], _ => ⟨[], rfl, fun _ h => nomatch h⟩
  | c :: cs, h => by
    obtain ⟨l, e, hl⟩ := ones_of (cs := cs) fun x hx => h x (List.mem_cons_of_mem _ hx)
    obtain ⟨z, hz, rfl⟩ := h c List.mem_cons_self
    refine ⟨z :: l, by rw [e] <;> rfl, fun x hx => ?_⟩
    rcases List.mem_cons.mp hx with rfl | hx
    · exact hz
    · exact hl x hx
theorem ok_lcube {f : Addr} {fd : FuncData} (F : C8.Def K mg "_law_cube" sCube f fd) (b : Binds K fd ["_law_source_here", "_law_n"] []) (T : Blt mg) (cD : C8.Cal P w K mg base 1 "_law_draw" spDraw []) : C8.Cal P w K mg base 2 "_law_cube" spCube [] := by
  have sc : FnScope ["_law_source_here", "_law_n", "_law_k"] ["_law_source_here", "_law_n"] (C8.fnScope sCube) := C8.fnScope_by (by decide +kernel)
  refine C8.cal0 F b .nil sc (fun vs H Q E h => ?_) (fun cdv A outer s H vs Q E hr h => ?_)
  · obtain ⟨p, b0, n, rfl, _⟩ := h
    rfl
  · obtain ⟨p, b0, n, rfl, hs, h4, k⟩ := h
    refine ⟨_, pss_one (ps_ret (pe_join pe_str (pe_lc (own := [("_law_k", 2)]) (g := gName 2) (tt := tYes) rfl sc.nd (pi_range1 (by rfl) T.rng (pa_cons (pv 1) pa_nil)) (blkOk_by (N := ["_law_source_here", "_law_n", "_law_k"]) (sc := C8.fnScope sCube) (by decide +kernel))
        (fun _ _ _ _ _ => pg_name (i := 2) sc.nd rfl (.inl rfl)) (fun _ _ _ _ _ => pts_nil) (fun _ _ _ _ _ => pe_ix ix_str pe_str (C8.pe_c cD hr (by decide) (by rfl) (pa_cons (pv 0) (pa_cons pe_int pa_nil))) (fun _ _ => rfl))))), ?_⟩
    refine ⟨⟨_, rfl⟩, _, rfl, _, rfl, by omega, by omega, fun D hD => ?_⟩
    have en : (((n : Nat) : Int)).toNat = n := by omega
    rw [en]
    refine lc_draw (p := p) (b := b0) walk_range (fun _ _ _ _ y => y.1) (fun c => ∃ z, Sgn z ∧ c = [z]) hD hs (by omega) (fun _ => rfl) (fun x H2 Kn s2 hk => ?_) (fun H2 cs k2 s2 hl hc hD2 => ?_)
    · refine ⟨_, rfl, p, b0, 3, rfl, s2, by decide, by decide, fun H3 r k3 s3 hr3 => ?_⟩
      have hr' : r < [45, 48, 49].length := hr3
      refine ⟨_, _, _, rfl, rfl, by rw [lit "-01" (l := [45, 48, 49]) (by decide)]; exact sz_S (by decide), sg_at (lit "-01" (l := [45, 48, 49]) (by decide)) hr', hk H3 [[45, 48, 49][r]] k3 s3 ⟨_, ?_, rfl⟩⟩
      have := List.getElem_mem hr'
      rcases List.mem_cons.mp this with h | h
      · exact .inl h
      rcases List.mem_cons.mp h with h | h
      · exact .inr (.inl h)
      · exact .inr (.inr (List.mem_singleton.mp h))
    · obtain ⟨l, rfl, hl2⟩ := ones_of hc
      rw [List.length_map] at hl
      rw [txs_map] at hD2
      refine ⟨S [], D, _, rfl, rfl, .inl (Evl.sq_of hD2), ?_, ?_⟩
      · have h2 : (((l.map fun k => [k]).map S).map (·.length)).sum = l.length := by
          rw [SX.lens, List.map_map]
          exact sum_ones _
        rw [h2, SX.S_len]
        show _ + _ * 0 ≤ _
        omega
      · rw [SX.join_S, join_nil, flat_ones]
        exact k H2 l k2 s2 ⟨hl, hl2⟩
abbrev sCover : Stmt := top 58
def spCover : Sp := fun vs H Q _ => ∃ (p b : Addr) (n : Nat), vs = [.ref p, .int ((n : Nat) : Int)] ∧ SrcAt H p b ∧ n ≤ 4 ∧
  ∀ H' v cov, Kp p H H' → SrcAt H' p b → CovAt H' v cov → (∀ cs, cov = some cs → cs.length ≤ 40) → (∀ cs, cov = some cs → ∀ c ∈ cs, Cb n c) → (∀ a, v = .ref a → a ≠ p) → Q v H'
theorem ok_cover {f : Addr} {fd : FuncData} (F : C8.Def K mg "_law_cover" sCover f fd) (b : Binds K fd ["_law_source_here", "_law_n"] []) (T : Blt mg) (cD : C8.Cal P w K mg base 1 "_law_draw" spDraw []) (cC : C8.Cal P w K mg base 2 "_law_cube" spCube []) : C8.Cal P w K mg base 3 "_law_cover" spCover [] := by
  have sc : FnScope ["_law_source_here", "_law_n", "_law_many", "_law_k"] ["_law_source_here", "_law_n"] (C8.fnScope sCover) := C8.fnScope_by (by decide +kernel)
  refine C8.cal0 F b .nil sc (fun vs H Q E h => ?_) (fun cdv A outer s H vs Q E hr h => ?_)
  · obtain ⟨p, b0, n, rfl, _⟩ := h
    rfl
  · obtain ⟨p, b0, n, rfl, hs, h4, k⟩ := h
    refine ⟨_, pss_cons (ps_set (i := 2) sc.nd rfl (.inl rfl) (pe_ix ix_list (pe_lst (pa_cons pe_int (pa_cons pe_int (pa_cons pe_int (pa_cons pe_int (pa_cons pe_int (pa_cons pe_int (pa_cons pe_int (pa_cons pe_int (pa_cons pe_int (pa_cons pe_int pa_nil))))))))))) (C8.pe_c cD hr (by decide) (by rfl) (pa_cons (pv 0) (pa_cons pe_int pa_nil))) (fun _ _ => rfl)))
      (pss_cons (ps_if (pt_cmpR op_eq (C8.pe_c cD hr (by decide) (by rfl) (pa_cons (pv 0) (pa_cons pe_int pa_nil))) pe_int (nomark _)) (pss_one (ps_ret pe_non)) pss_nil)
      (pss_one (ps_ret (pe_lc (own := [("_law_k", 3)]) (g := gName 3) (tt := tYes) rfl sc.nd (pi_range1 (by rfl) T.rng (pa_cons (pv 2) pa_nil)) (blkOk_by (N := ["_law_source_here", "_law_n", "_law_many", "_law_k"]) (sc := C8.fnScope sCover) (by decide +kernel))
        (fun _ _ _ _ _ => pg_name (i := 3) sc.nd rfl (.inl rfl)) (fun _ _ _ _ _ => pts_nil) (fun _ _ _ _ _ => C8.pe_c cC hr (by decide) (by rfl) (pa_cons (pv 0) (pa_cons (pv 1) pa_nil))))))), ?_⟩
    refine ⟨Nat.le_of_lt (small1000 (by show 10 ≤ 1000; decide)), fun l hl => ?_⟩
    obtain ⟨n1, n2⟩ := hs.ne hl
    refine ⟨_, rfl, p, b0, 10, rfl, hs.upd n1 n2, by decide, by decide, fun H2 r k2 s2 hr8 => ?_⟩
    have hl2 := k2 l _ n1 upd_same
    have all : ∀ r, r < 10 → ∃ m : Nat, ([0, 1, 2, 3, 5, 8, 39, 40, 4, 2].map fun n : Nat => V.int ((n : Nat) : Int))[r]? = some (.int ((m : Nat) : Int)) ∧ m ≤ 40 := fun r hr => by
      have hm : ∀ n ∈ [0, 1, 2, 3, 5, 8, 39, 40, 4, 2], n ≤ 40 := by decide
      have hr' : r < [0, 1, 2, 3, 5, 8, 39, 40, 4, 2].length := hr
      exact ⟨[0, 1, 2, 3, 5, 8, 39, 40, 4, 2][r], by rw [List.getElem?_map, List.getElem?_eq_getElem hr'] <;> rfl, hm _ (List.getElem_mem hr')⟩
    obtain ⟨m, hn, n40⟩ := all r hr8
    have k02 := ((Kp.refl p H).mut hl (o := .lst ([0, 1, 2, 3, 5, 8, 39, 40, 4, 2].map fun n : Nat => V.int ((n : Nat) : Int)))).trans k2
    refine ⟨l, _, _, _, rfl, rfl, Evl.sq_of hl2, atI_nat hn, ?_⟩
    refine ⟨_, rfl, p, b0, 4, rfl, s2, by decide, by decide, fun H3 r3 k3 s3 hr4 => ⟨rfl, _, rfl, ite2 (fun _ => ?_) (fun _ => ?_)⟩⟩
    · exact k H3 .non none (k02.trans k3) s3 rfl (fun _ z => nomatch z) (fun _ z => nomatch z) (fun _ z => nomatch z)
    · refine ⟨_, rfl, _, rfl, by omega, by omega, fun D hD => ?_⟩
      have en : (((m : Nat) : Int)).toNat = m := by omega
      rw [en]
      refine lc_draw (p := p) (b := b0) walk_range (fun _ _ _ _ y => y.1) (fun c => Cb n c) hD s3 (by omega) (fun _ => rfl) (fun x H4 Kn s4 hk => ?_) (fun H4 cs k4 s4 hl hc hD2 => ?_)
      · exact ⟨_, rfl, _, rfl, p, b0, n, rfl, s4, h4, hk⟩
      · refine k H4 (.ref D) (some cs) ((k02.trans k3).trans k4) s4 ⟨D, rfl, hD2⟩ (fun _ z => ?_) (fun _ z => ?_) (fun a z => ?_)
        · obtain rfl := Option.some.inj z
          omega
        · obtain rfl := Option.some.inj z
          exact hc
        · obtain rfl := V.ref.inj z
          exact (s3.ne hD).1
end
end Sc

namespace Sc
open PySem L2
open Evl (Ex Ev)
section
variable {P : Program} {w : World} {K : PySem.W.Frag} {mg : Str → Option Value} {base : Heap}
abbrev sText : Stmt := top 52
def spText : Sp := fun vs H Q _ => ∃ (p b : Addr) (n : Nat), vs = [.ref p, .int ((n : Nat) : Int)] ∧ SrcAt H p b ∧ 1 ≤ n ∧ n ≤ 4 ∧ ∀ H' t, Kp p H H' → SrcAt H' p b → Tb n t → Q (.str (S t)) H'
abbrev nText : List Str := ["_law_source_here", "_law_n", "_law_mode", "_law_cubes", "_law_signs", "_law_point", "_law_within", "_law_sign", "_law_k", "_law_cube_here"]
/-- the slots of _law_text within its loop -/
abbrev slT (p : Addr) (n m : Nat) (cb sg : Addr) (v5 v6 v7 : Option V) : L2.St := [some (.ref p), some (.int ((n : Nat) : Int)), some (.int ((m : Nat) : Int)), some (.ref cb), some (.ref sg), v5, v6, v7, none, none]
theorem ok_text {f : Addr} {fd : FuncData} (F : C8.Def K mg "_law_text" sText f fd) (b : Binds K fd ["_law_source_here", "_law_n"] []) (T : Blt mg) (cD : C8.Cal P w K mg base 1 "_law_draw" spDraw []) (cC : C8.Cal P w K mg base 2 "_law_cube" spCube [])
    (cP : C8.Cal P w K mg base 1 "_law_points" spPoints []) (cH : C8.Cal P w K mg base 1 "_law_holds" spHolds []) : C8.Cal P w K mg base 3 "_law_text" spText [] := by
  have sc : FnScope nText ["_law_source_here", "_law_n"] (C8.fnScope sText) := C8.fnScope_by (by decide +kernel)
  refine C8.cal0 F b .nil sc (fun vs H Q E h => ?_) (fun cdv A outer s H vs Q E hr h => ?_)
  · obtain ⟨p, b0, n, rfl, _⟩ := h
    rfl
  · obtain ⟨p, b0, n, rfl, hs, n1, n4, k⟩ := h
    refine ⟨_, pss_cons (ps_set (i := 2) sc.nd rfl (.inl rfl) (C8.pe_c cD hr (by decide) (by rfl) (pa_cons (pv 0) (pa_cons pe_int pa_nil))))
      (pss_cons (ps_setLc (i := 3) (own := [("_law_k", 8)]) (g := gName 8) (tt := tYes) rfl sc.nd rfl rfl (sw_true rfl rfl rfl (by decide +kernel)) (pi_range1 (by rfl) T.rng (pa_cons (pe_op op_add pe_int (C8.pe_c cD hr (by decide) (by rfl) (pa_cons (pv 0) (pa_cons pe_int pa_nil)))) pa_nil)) (blkOk_by (N := nText) (sc := C8.fnScope sText) (by decide +kernel))
        (fun _ _ _ _ _ => pg_name (i := 8) sc.nd rfl (.inl rfl)) (fun _ _ _ _ _ => pts_nil) (fun _ _ _ _ _ => C8.pe_c cC hr (by decide) (by rfl) (pa_cons (pv 0) (pa_cons (pv 1) pa_nil))))
      (pss_cons (ps_set (i := 4) sc.nd rfl (.inl rfl) (pe_lst pa_nil))
      (pss_cons (ps_for PassesOwn.never rfl (pi_list (C8.pe_c cP hr (by decide) (by rfl) (pa_cons (pe_op op_repC pe_str (pv 1)) pa_nil))) (pg_name (i := 5) sc.nd rfl (.inr rfl))
        (pss_cons (ps_set (i := 6) sc.nd rfl (.inl rfl) (pe_callB (cr_any rfl) (by rfl) T.any (by decide +kernel) (pa_cons (pe_lc (own := [("_law_cube_here", 9)]) (g := gName 9) (tt := tYes) rfl sc.nd (pi_list (pv 3)) (blkOk_by (N := nText) (sc := C8.fnScope sText) (by decide +kernel))
          (fun _ _ _ _ _ => pg_name (i := 9) sc.nd rfl (.inl rfl)) (fun _ _ _ _ _ => pts_nil) (fun _ _ _ _ _ => C8.pe_c cH hr (by decide) (by rfl) (pa_cons (pv 9) (pa_cons (pv 5) pa_nil)))) pa_nil)))
        (C8.pss_cut (ps_set (i := 7) sc.nd rfl (.inl rfl) (pe_ix ix_str pe_str (pe_callTy call_int1 (by rfl) T.int (by decide +kernel) (pa_cons (pv 6) pa_nil)) (fun _ _ => rfl)))
        (C8.pss_cut (ps_if (pt_cmpR op_eq (pv 2) pe_int (nomark _)) (pss_one (ps_set (i := 7) sc.nd rfl (.inl rfl) (pe_ix ix_str pe_str (pe_callTy call_int1 (by rfl) T.int (by decide +kernel) (pa_cons (pv 6) pa_nil)) (fun _ _ => rfl)))) pss_nil)
        (C8.pss_cut (ps_if (pt_cmpR op_eq (pv 2) pe_int (nomark _)) (pss_one (ps_set (i := 7) sc.nd rfl (.inl rfl) (pe_ix ix_str pe_str (C8.pe_c cD hr (by decide) (by rfl) (pa_cons (pv 0) (pa_cons pe_int pa_nil))) (fun _ _ => rfl)))) pss_nil)
        (C8.pss_cut (ps_if (pt_cmpR op_eq (pv 2) pe_int (nomark _)) (pss_one (ps_set (i := 7) sc.nd rfl (.inl rfl) (pe_ix ix_str pe_str (C8.pe_c cD hr (by decide) (by rfl) (pa_cons (pv 0) (pa_cons pe_int pa_nil))) (fun _ _ => rfl)))) pss_nil)
        (C8.pss_cut (ps_if (PW.pt (pw_and (pt_cmpR op_eq (pv 2) pe_int (nomark _)) (pw_and1 (pt_cmpR op_eq (C8.pe_c cD hr (by decide) (by rfl) (pa_cons (pv 0) (pa_cons pe_int pa_nil))) pe_int (nomark _))))) (pss_one (ps_set (i := 7) sc.nd rfl (.inl rfl) pe_str)) pss_nil)
        (pss_one (ps_expr (pe_bm PySem.F.plainAttrs_list PySem.F.slot_list_append PySem.F.type_list_append mt_append (pv 4) (pa_cons (pv 7) pa_nil)))))))))))
      (pss_cons (ps_if (PW.pt (pw_and (pt_cmpR op_eq (pv 2) pe_int (nomark _)) (pw_and1 (pt_cmpR op_eq (pv 1) pe_int (nomark _))))) (pss_one (ps_ret pe_str)) pss_nil)
      (pss_one (ps_ret (pe_join pe_str (pv 4)))))))), ?_⟩
    -- mode
    refine ⟨_, rfl, p, b0, 5, rfl, hs, by decide, by decide, fun H1 m k1 s1 hm => ?_⟩
    -- cubes
    refine ⟨_, rfl, p, b0, 4, rfl, s1, by decide, by decide, fun H2 r k2 s2 hr4 => ⟨_, _, rfl, rfl, _, rfl, by omega, by omega, fun D hD => ?_⟩⟩
    have en : ((1 : Int) + ((r : Nat) : Int)).toNat = 1 + r := by omega
    rw [en]
    refine lc_draw (p := p) (b := b0) walk_range (fun _ _ _ _ y => y.1) (fun c => Cb n c) hD s2 (by omega) (fun _ => rfl) (fun x H3 Kn s3 hk => ?_) (fun H3 cubes k3 s3 hcl hcc hcD => ?_)
    · exact ⟨_, rfl, _, rfl, p, b0, n, rfl, s3, n4, hk⟩
    -- signs = []
    refine ⟨Nat.zero_le _, fun sg hsg => ?_⟩
    obtain ⟨g1, g2⟩ := s3.ne hsg
    have s4 := s3.upd (o := .lst []) g1 g2
    have e34 := Ex.new (o := .lst []) hsg
    -- the points
    refine ⟨_, rfl, 45, n, rfl, rfl, by omega, n, List.replicate n 45, rfl, cb_full n, n4, fun H5 pl e5 hpl hP => ?_⟩
    have s5 := s4.ex e5
    obtain ⟨l1, l2⟩ := s4.ne hpl
    have k35 : Kp p H3 H5 := Kp.of (e34.trans e5)
    have k05 : Kp p H H5 := ((k1.trans k2).trans k3).trans k35
    have hD5 : H5 D = some (.lst (txs cubes)) := (e34.trans e5) _ _ hcD
    have hsg5 : H5 sg = some (.lst []) := e5 _ _ upd_same
    have hsg0 : H sg = none := (((k1.trans k2).trans k3)).fresh hsg g1
    have nDp : D ≠ p := (s2.ne hD).1
    have nDs : D ≠ sg := fun z => by rw [← z, hcD] at hsg; cases hsg
    have nPs : pl ≠ sg := fun z => by rw [z, upd_same] at hpl; cases hpl
    refine ⟨pl, rfl, ⟨_, Evl.sq_of hP⟩, for_txs (l := pts (List.replicate n 45)) (fun i σ' H' => Kp p H H' ∧ SrcAt H' p b0 ∧ H' pl = some (.lst (txs (pts (List.replicate n 45)))) ∧ H' D = some (.lst (txs cubes)) ∧
      ∃ (acc : L) (v5 v6 v7 : Option V), acc.length = i ∧ (∀ c ∈ acc, Sgn c) ∧ H' sg = some (.lst (txs (acc.map fun k => [k]))) ∧ σ' = slT p n m D sg v5 v6 v7) ⟨k05, s5, hP, hD5, [], none, none, none, rfl, (fun _ h => nomatch h), hsg5, rfl⟩ (fun i σ' H' _ q => q.2.2.1) ?_ ?_⟩
    · rintro i r1 σ' H6 hi ⟨k6, s6, hP6, hD6, acc, v5, v6, v7, hacc, hsgn, hsg6, rfl⟩
      have hrp : Pt n r1 := pts_pt (cb_full n) (List.mem_of_getElem? hi)
      have hi16 : i < 16 := by
        have h1 := (List.getElem?_eq_some_iff.mp hi).1
        have h2 := pts_len (n := n) (c := List.replicate n 45) List.length_replicate n4
        omega
      -- within
      refine ⟨_, rfl, D, rfl, ⟨_, Evl.sq_of hD6⟩, fun D2 hD2 => ?_⟩
      refine lc_it (walk_txs (K := K) (a := D) (l := cubes)) (fun j H' => Ex H6 H' ∧ ∃ bs : List Bool, bs.length = j ∧ H' D2 = some (.lst (bs.map V.bl))) ⟨Ex.new hD2, [], rfl, upd_same⟩ (fun j H' _ q => q.1 _ _ hD6) (fun j x H7 H8 hj ⟨e7, bs, hbs, hH7⟩ y => ?_) (fun H7 ⟨e7, bs, hbs, hH7⟩ => ?_)
      · obtain ⟨rfl, c, hc, rfl⟩ := y
        have hcb := hcc c (List.mem_of_getElem? hc)
        refine ⟨rfl, yes_ ⟨_, rfl, _, rfl, n, c, r1, rfl, hcb.len, hrp.len, n4, fun H9 b9 e9 => ⟨_, e9 _ _ hH7, small1000 (by rw [List.length_map]; omega), Ex.mut (e7.trans e9) hD2, bs ++ [b9], by rw [List.length_append, hbs] <;> rfl, ?_⟩⟩⟩
        rw [upd_same, List.map_append] <;> rfl
      · refine ⟨D2, bs, rfl, Evl.sq_of hH7, ?_⟩
        have nsD2 : D2 ≠ sg := fun z => by rw [z, hsg6] at hD2; cases hD2
        have s7 := s6.ex e7
        have k67 : Kp p H6 H7 := Kp.of e7
        -- what every cut keeps
        let Mid : L2.St → Hp → Prop := fun σ' H' => ∃ c, Sgn c ∧ σ' = slT p n m D sg (some (.str (S r1))) (some (.bl (bs.any id))) (some (.str (S [c]))) ∧ Kp p H6 H' ∧ SrcAt H' p b0
        have l01 : Str.ofString "01" = S [48, 49] := lit "01" (by decide)
        have l10 : Str.ofString "10" = S [49, 48] := lit "10" (by decide)
        have l5 : Str.ofString "01-01" = S [48, 49, 45, 48, 49] := lit "01-01" (by decide)
        have sgm : ∀ (l : L) (r : Nat) (h : r < l.length), (∀ c ∈ l, Sgn c) → Sgn l[r] := fun l r h q => q _ (List.getElem_mem h)
        have s01 : ∀ c ∈ [48, 49], Sgn c := fun c h => by
          rcases List.mem_cons.mp h with h | h
          · exact .inr (.inl h)
          · exact .inr (.inr (List.mem_singleton.mp h))
        have s10 : ∀ c ∈ [49, 48], Sgn c := fun c h => by
          rcases List.mem_cons.mp h with h | h
          · exact .inr (.inr h)
          · exact .inr (.inl (List.mem_singleton.mp h))
        have s5' : ∀ c ∈ [48, 49, 45, 48, 49], Sgn c := fun c h => by
          simp only [List.mem_cons, List.not_mem_nil, or_false] at h
          unfold Sgn
          omega
        refine ⟨Mid, ?_, ?_⟩
        · refine ⟨_, rfl, .inr ⟨_, rfl, _, _, if (bs.any id) = true then 49 else 48, rfl, rfl, by rw [l01]; exact sz_S (by decide), ?_, ?_⟩⟩
          · cases bs.any id
            · exact sg_at l01 (r := 0) (by decide)
            · exact sg_at l01 (r := 1) (by decide)
          · refine ⟨_, ?_, rfl, k67, s7⟩
            cases bs.any id
            · exact .inr (.inl rfl)
            · exact .inr (.inr rfl)
        rintro σ' H8 ⟨c8, hc8, rfl, k8, s8⟩
        refine ⟨Mid, ?_, ?_⟩
        · refine ⟨_, rfl, rfl, _, rfl, ite2 (fun _ => ?_) (fun _ => ⟨c8, hc8, rfl, k8, s8⟩)⟩
          refine ⟨_, rfl, .inr ⟨_, rfl, _, _, if (bs.any id) = true then 48 else 49, rfl, rfl, by rw [l10]; exact sz_S (by decide), ?_, ?_⟩⟩
          · cases bs.any id
            · exact sg_at l10 (r := 0) (by decide)
            · exact sg_at l10 (r := 1) (by decide)
          · refine ⟨_, ?_, rfl, k8, s8⟩
            cases bs.any id
            · exact .inr (.inr rfl)
            · exact .inr (.inl rfl)
        clear hc8 k8 s8 c8 H8
        rintro σ' H8 ⟨c8, hc8, rfl, k8, s8⟩
        refine ⟨Mid, ?_, ?_⟩
        · refine ⟨_, rfl, rfl, _, rfl, ite2 (fun _ => ?_) (fun _ => ⟨c8, hc8, rfl, k8, s8⟩)⟩
          exact ⟨_, rfl, p, b0, 2, rfl, s8, by decide, by decide, fun H9 r9 k9 s9 hr9 => ⟨_, _, _, rfl, rfl, by rw [l01]; exact sz_S (by decide), sg_at l01 (show r9 < [48, 49].length from hr9), _, sgm _ _ _ s01, rfl, k8.trans k9, s9⟩⟩
        clear hc8 k8 s8 c8 H8
        rintro σ' H8 ⟨c8, hc8, rfl, k8, s8⟩
        refine ⟨Mid, ?_, ?_⟩
        · refine ⟨_, rfl, rfl, _, rfl, ite2 (fun _ => ?_) (fun _ => ⟨c8, hc8, rfl, k8, s8⟩)⟩
          exact ⟨_, rfl, p, b0, 5, rfl, s8, by decide, by decide, fun H9 r9 k9 s9 hr9 => ⟨_, _, _, rfl, rfl, by rw [l5]; exact sz_S (by decide), sg_at l5 (show r9 < [48, 49, 45, 48, 49].length from hr9), _, sgm _ _ _ s5', rfl, k8.trans k9, s9⟩⟩
        clear hc8 k8 s8 c8 H8
        rintro σ' H8 ⟨c8, hc8, rfl, k8, s8⟩
        refine ⟨Mid, ?_, ?_⟩
        · refine ⟨_, rfl, rfl, _, rfl, ite2 (fun _ => ?_) (fun _ => iteF ⟨c8, hc8, rfl, k8, s8⟩)⟩
          refine ⟨_, rfl, p, b0, 8, rfl, s8, by decide, by decide, fun H9 r9 k9 s9 hr9 => ⟨rfl, _, rfl, ite2 (fun _ => ?_) (fun _ => ⟨c8, hc8, rfl, k8.trans k9, s9⟩)⟩⟩
          exact ⟨45, .inl rfl, by rw [lit "-" (l := [45]) (by decide)] <;> rfl, k8.trans k9, s9⟩
        clear hc8 k8 s8 c8 H8
        rintro σ' H8 ⟨c8, hc8, rfl, k8, s8⟩
        have hsg8 := k8 _ _ g1 hsg6
        refine ⟨_, rfl, .inl ⟨rfl, _, Evl.sq_of hsg8⟩, _, rfl, sg, _, _, rfl, rfl, hsg8, small1000 (by rw [txs_len, List.length_map]; omega), ?_⟩
        refine ⟨(k6.trans k8).mut hsg0, s8.upd g1 g2, by rw [upd_ne nPs]; exact k8 _ _ l1 hP6, by rw [upd_ne nDs]; exact k8 _ _ nDp hD6, acc ++ [c8], _, _, _, by rw [List.length_append, hacc] <;> rfl, fun c hc => ?_, ?_, rfl⟩
        · rcases List.mem_append.mp hc with hc | hc
          · exact hsgn c hc
          · rw [List.mem_singleton.mp hc]
            exact hc8
        · rw [upd_same, List.map_append]
          exact congrArg (fun q => some (HO.lst q)) (txs_app (acc.map fun k => [k]) [[c8]])
    · rintro σ' H6 ⟨k6, s6, hP6, hD6, acc, v5, v6, v7, hacc, hsgn, hsg6, rfl⟩
      rw [pts_full] at hacc
      have fin : tRet (tM1 (fun x xs H Q => ∃ a p, ∃ ys : List Str, x = .str a ∧ xs = [.ref p] ∧ (SqL K H p (ys.map V.str) ∨ SqT K H p (ys.map V.str)) ∧ (ys.map (·.length)).sum + ys.length * a.length ≤ 16777216 ∧ Q (.str (Txt.join a ys)) H) (tC (.str (Str.ofString ""))) (tVar 4)) { nx := fun _ H' => Q .non H', rt := Q } (slT p n m D sg v5 v6 v7) H6 := by
        rw [txs_map] at hsg6
        refine ⟨⟨_, rfl⟩, _, rfl, S [], sg, _, rfl, rfl, .inl (Evl.sq_of hsg6), ?_, ?_⟩
        · have h2 : (((acc.map fun k => [k]).map S).map (·.length)).sum = acc.length := by
            rw [SX.lens, List.map_map]
            exact sum_ones _
          rw [h2, SX.S_len, hacc]
          have := pow_le n4
          show _ + _ * 0 ≤ _
          omega
        · rw [SX.join_S, join_nil, flat_ones]
          exact k H6 acc k6 s6 ⟨hacc, hsgn, n1, n4⟩
      refine ⟨_, rfl, rfl, _, rfl, ite2 (fun _ => ?_) (fun _ => iteF fin)⟩
      refine ⟨_, rfl, rfl, _, rfl, ite2 (fun hn => ?_) (fun _ => fin)⟩
      have hn3 : n = 3 := by
        have := V.int.inj (of_decide_eq_true hn)
        omega
      show Q (.str (Str.ofString "01010100")) H6
      rw [lit "01010100" (l := q "01010100") rfl]
      refine k H6 _ k6 s6 ⟨by rw [hn3]; decide, ?_, n1, n4⟩
      intro c hc
      have hq : ∀ c ∈ q "01010100", c = 48 ∨ c = 49 := by decide
      exact .inr (hq c hc)
end
end Sc

namespace Sc
open PySem L2
open Evl (Ex Ev)
/-- the kinds of a plain change -/
def PlainK (k : L) : Prop := k = q "low" ∨ k = q "high" ∨ k = q "rise" ∨ k = q "fall"
theorem inV_txs {x : L} {l : List L} : inV (.str (S x)) (txs l) = true ↔ x ∈ l := by
  unfold inV txs
  rw [List.any_map, List.any_eq_true]
  constructor
  · rintro ⟨y, hy, e⟩
    have e' : (S y == S x) = true := e
    have := SX.S_inj (eq_of_beq e')
    rw [← this]
    exact hy
  · intro h
    refine ⟨x, h, ?_⟩
    show (S x == S x) = true
    exact beq_self_eq_true _
theorem flat_txs (l : List L) : (txs l).all flatV = true := by
  unfold txs
  rw [List.all_map, List.all_eq_true]
  intro _ _
  rfl
theorem count_S {l : L} {c : Nat} (h : ¬ (((l.map fun k => S [k]).count (S [c]) : Nat) : Int) < ((l.length : Nat) : Int)) : ∀ k ∈ l, k = c := by
  intro k hk
  have e : (l.map fun k => S [k]).count (S [c]) = (l.map fun k => S [k]).length := by
    have := List.count_le_length (a := S [c]) (l := l.map fun k => S [k])
    rw [List.length_map] at this ⊢
    omega
  have := List.count_eq_length.mp e (S [k]) (List.mem_map.mpr ⟨k, hk, rfl⟩)
  exact (List.cons.inj (SX.S_inj this)).1.symm
section
variable {P : Program} {w : World} {K : PySem.W.Frag} {mg : Str → Option Value} {base : Heap}
abbrev sKind : Stmt := top 53
def spKind : Sp := fun vs H Q _ => ∃ (n : Nat) (a : Addr) (t : L) (ch : L × L), vs = [.str (S t), .ref a] ∧ Tb n t ∧ ChAt H a ch ∧ Pt n ch.1 ∧ Pt n ch.2 ∧ ∀ H' k, Ex H H' → (PlainK k → PlainCh t ch.1 ch.2) → Q (.str (S k)) H'
abbrev nKind : List Str := ["_law_text_here", "_law_change", "_law_start", "_law_end", "_law_points_here", "_law_values", "_law_first", "_law_last", "_law_x", "_law_y", "_law_point"]
theorem ok_kind {f : Addr} {fd : FuncData} (F : C8.Def K mg "_law_kind" sKind f fd) (b : Binds K fd ["_law_text_here", "_law_change"] []) (T : Blt mg) (cP : C8.Cal P w K mg base 1 "_law_points" spPoints []) (cS : C8.Cal P w K mg base 1 "_law_span" spSpan []) (cV : C8.Cal P w K mg base 1 "_law_value" spValue []) :
    C8.Cal P w K mg base 2 "_law_kind" spKind [] := by
  have sc : FnScope nKind ["_law_text_here", "_law_change"] (C8.fnScope sKind) := C8.fnScope_by (by decide +kernel)
  refine C8.cal0 F b .nil sc (fun vs H Q E h => ?_) (fun cdv A outer s H vs Q E hr h => ?_)
  · obtain ⟨n, a, t, ch, rfl, _⟩ := h
    rfl
  · obtain ⟨n, a, t, ch, rfl, ht, hc, pa, pb, k⟩ := h
    have hu : (A.deeper (PyProof.Rows.envOfC "_law_kind" (C8.fnScope sKind) s.heap.objs.size f cdv)).units + 65 < cLine := by have := hr.un; omega
    refine ⟨_, pss_cons (ps_asg (pv 1) (pg_tup rfl (pgs_cons (pg_name (i := 2) sc.nd rfl (.inl rfl)) (pgs_cons (pg_name (i := 3) sc.nd rfl (.inl rfl)) pgs_nil))))
      (pss_cons (ps_set (i := 4) sc.nd rfl (.inl rfl) (C8.pe_c cP hr (by decide) (by rfl) (pa_cons (C8.pe_c cS hr (by decide) (by rfl) (pa_cons (pv 2) (pa_cons (pv 3) pa_nil))) pa_nil)))
      (pss_cons (ps_setLc (i := 5) (own := [("_law_point", 10)]) (g := gName 10) (tt := tYes) rfl sc.nd rfl rfl (sw_true rfl rfl rfl (by decide +kernel)) (pi_list (pv 4)) (blkOk_by (N := nKind) (sc := C8.fnScope sKind) (by decide +kernel))
        (fun _ _ _ _ _ => pg_name (i := 10) sc.nd rfl (.inl rfl)) (fun _ _ _ _ _ => pts_nil) (fun _ _ _ _ _ => C8.pe_c cV hr (by decide) (by rfl) (pa_cons (pv 0) (pa_cons (pv 10) pa_nil))))
      (pss_cons (ps_set (i := 6) sc.nd rfl (.inl rfl) (C8.pe_c cV hr (by decide) (by rfl) (pa_cons (pv 0) (pa_cons (pv 2) pa_nil))))
      (pss_cons (ps_set (i := 7) sc.nd rfl (.inl rfl) (C8.pe_c cV hr (by decide) (by rfl) (pa_cons (pv 0) (pa_cons (pv 3) pa_nil))))
      (pss_cons (ps_if (pt_cmpR op_in_seq pe_str (pv 5) rfl) (pss_one (ps_ret pe_str)) pss_nil)
      (pss_cons (ps_if (pt_cmpR op_eq (pv 6) (pv 7) (nomark _))
        (pss_cons (ps_if (pt_cmpR op_lt (pe_bm PySem.F.plainAttrs_list PySem.F.slot_list_count PySem.F.type_list_count (mt_countS hu) (pv 5) (pa_cons (pv 6) pa_nil)) (pe_callB call_len_seq (by rfl) T.len PySem.boot_len (pa_cons (pv 5) pa_nil)) (nomark _)) (pss_one (ps_ret pe_str)) pss_nil)
        (pss_one (ps_ret (pe_ix ix_list (pe_lst (pa_cons pe_str (pa_cons pe_str pa_nil))) (pe_callTy call_int1 (by rfl) T.int (by decide +kernel) (pa_cons (pe_cmpR op_eq (pv 6) pe_str (nomark _)) pa_nil)) (fun _ _ => rfl))))) pss_nil)
      (pss_cons (ps_for PassesOwn.never rfl (pi_list (pv 4)) (pg_name (i := 8) sc.nd rfl (.inl rfl))
        (pss_one (ps_if (pt_cmpR op_eq (C8.pe_c cV hr (by decide) (by rfl) (pa_cons (pv 0) (pa_cons (pv 8) pa_nil))) (pv 7) (nomark _))
          (pss_one (ps_for PassesOwn.never rfl (pi_list (C8.pe_c cP hr (by decide) (by rfl) (pa_cons (C8.pe_c cS hr (by decide) (by rfl) (pa_cons (pv 8) (pa_cons (pv 3) pa_nil))) pa_nil))) (pg_name (i := 9) sc.nd rfl (.inl rfl))
            (pss_one (ps_if (pt_cmpR op_eq (C8.pe_c cV hr (by decide) (by rfl) (pa_cons (pv 0) (pa_cons (pv 9) pa_nil))) (pv 6) (nomark _)) (pss_one (ps_ret pe_str)) pss_nil)))) pss_nil)))
      (pss_one (ps_ret (pe_ix ix_list (pe_lst (pa_cons pe_str (pa_cons pe_str pa_nil))) (pe_callTy call_int1 (by rfl) T.int (by decide +kernel) (pa_cons (pe_cmpR op_eq (pv 6) pe_str (nomark _)) pa_nil)) (fun _ _ => rfl))))))))))), ?_⟩
    have h4 := ht.hi
    have hsp : Cb n (span ch.1 ch.2) := span_cb pa.cb pb.len
    have notfree : ∀ s : String, (¬ PlainK (q s)) → PlainK (q s) → PlainCh t ch.1 ch.2 := fun s h1 h2 => absurd h2 h1
    have nfree : ¬ PlainK (q "free") := by unfold PlainK; decide
    have nunev : ¬ PlainK (q "uneven") := by unfold PlainK; decide
    -- start, end = change
    refine ⟨_, rfl, a, _, rfl, .inl (.inl hc), rfl, _, _, rfl, _, _, rfl, rfl, ?_⟩
    -- the points
    refine ⟨_, rfl, _, rfl, n, ch.1, ch.2, rfl, pa.len, pb.len, h4, fun H1 e1 => ⟨n, span ch.1 ch.2, rfl, hsp, h4, fun H2 pl e2 hpl hP => ?_⟩⟩
    have e02 := e1.trans e2
    have hptm : ∀ {x : L}, x ∈ pts (span ch.1 ch.2) → Pt n x := fun h => pts_pt hsp h
    have hpl16 := pts_len (n := n) hsp.len h4
    -- the values
    refine ⟨_, rfl, pl, rfl, ⟨_, Evl.sq_of hP⟩, fun D hD => ?_⟩
    refine lc_ex (pts (span ch.1 ch.2)) (walk_txs (K := K) (a := pl)) (fun x => some (.str (S [val t x]))) hD (by omega) (fun H e => e _ _ hP) (fun i x y H3 H4 Kn Nn hx e z hk _ => ?_) (fun H3 e3 hl => ?_)
    · obtain ⟨rfl, x', hx', rfl⟩ := z
      rw [hx] at hx'
      obtain rfl := Option.some.inj hx'
      exact ⟨rfl, yes_ ⟨_, rfl, _, rfl, n, t, x, rfl, ht, hptm (List.mem_of_getElem? hx), fun H5 e5 => hk _ H5 rfl e5⟩⟩
    rw [fm_txs] at hl
    have e03 := e02.trans e3
    refine ⟨_, rfl, _, rfl, n, t, ch.1, rfl, ht, pa, fun H4 e4 => ?_⟩
    refine ⟨_, rfl, _, rfl, n, t, ch.2, rfl, ht, pb, fun H5 e5 => ?_⟩
    have e05 := (e03.trans e4).trans e5
    have hl5 : H5 D = some (.lst (txs ((pts (span ch.1 ch.2)).map fun x => [val t x]))) := e5 _ _ (e4 _ _ hl)
    have hP5 : H5 pl = some (.lst (txs (pts (span ch.1 ch.2)))) := e5 _ _ (e4 _ _ (e3 _ _ hP))
    have sgv : ∀ {x : L}, Pt n x → ∀ c ∈ [val t x], Sgn c := fun hx c hc => by
      rw [List.mem_singleton.mp hc]
      exact val_sgn ht hx
    -- '-' in values
    refine ⟨_, rfl, D, _, rfl, .inl (Evl.sq_of hl5), rfl, flat_txs _, _, rfl, ?_⟩
    rw [lit "-" (l := [45]) (by decide)]
    refine ite2 (fun _ => ?_) (fun hnf => ?_)
    · show Q (.str (Str.ofString "free")) H5
      rw [lit "free" (l := q "free") rfl]
      exact k H5 _ e05 (notfree _ nfree)
    have nofree : ∀ x ∈ pts (span ch.1 ch.2), val t x ≠ 45 := fun x hx e => hnf (by
      show inV (.str (S [45])) (txs ((pts (span ch.1 ch.2)).map fun x => [val t x])) = true
      rw [inV_txs, ← e]
      exact List.mem_map.mpr ⟨x, hx, rfl⟩)
    -- the last answers
    have last : ∀ (w1 w2 : String) (v8 v9 : Option V), PlainCh t ch.1 ch.2 → ∀ H6, Ex H H6 → tRet (tOp (rIxL K) (tLst (tCons (tC (.str (Str.ofString w1))) (tCons (tC (.str (Str.ofString w2))) tNil))) (tCB (fun xs H Q => (∃ i, xs = [.int i] ∧ Q (.int i) H) ∨ ∃ k, xs = [.bl k] ∧ Q (.int (if k then 1 else 0)) H) (tCons (tOp rEq (tVar 6) (tC (.str (Str.ofString "1")))) tNil)))
        { nx := fun _ H' => Q .non H', rt := Q } [some (.str (S t)), some (.ref a), some (.str (S ch.1)), some (.str (S ch.2)), some (.ref pl), some (.ref D), some (.str (S [val t ch.1])), some (.str (S [val t ch.2])), v8, v9, none] H6 := fun w1 w2 v8 v9 pl H6 e6 => by
      refine ⟨two_le _ _, fun l hl => ⟨_, rfl, rfl, .inr ⟨_, rfl, ?_⟩⟩⟩
      have e7 := e6.trans (Ex.new (o := .lst [.str (Str.ofString w1), .str (Str.ofString w2)]) hl)
      rw [lit w1 (l := q w1) rfl, lit w2 (l := q w2) rfl] at *
      cases decide (V.str (S [val t ch.1]) = V.str (Str.ofString "1")) with
      | true => exact ⟨l, _, _, .str (S (q w2)), rfl, rfl, Evl.sq_of upd_same, rfl, k _ _ e7 (fun _ => pl)⟩
      | false => exact ⟨l, _, _, .str (S (q w1)), rfl, rfl, Evl.sq_of upd_same, rfl, k _ _ e7 (fun _ => pl)⟩
    refine ⟨_, rfl, _, rfl, rfl, _, rfl, ?_⟩
    rw [vs1_inj]
    by_cases hev : val t ch.1 = val t ch.2
    · refine iteD hev ?_
      have ey : txs ((pts (span ch.1 ch.2)).map fun x => [val t x]) = (((pts (span ch.1 ch.2)).map fun x => val t x).map fun k => S [k]).map V.str := by
        unfold txs
        rw [List.map_map, List.map_map, List.map_map]
        rfl
      refine ⟨_, rfl, .inl ⟨rfl, _, Evl.sq_of hl5⟩, _, rfl, D, _, S [val t ch.1], rfl, rfl, by rw [← ey]; exact Evl.sq_of hl5, _, rfl, D, _, rfl, .inl (Evl.sq_of hl5), _, _, rfl, rfl, _, rfl, ite2 (fun _ => ?_) (fun hcnt => ?_)⟩
      · show Q (.str (Str.ofString "uneven")) H5
        rw [lit "uneven" (l := q "uneven") rfl]
        exact k H5 _ e05 (notfree _ nunev)
      · have hall := count_S (l := (pts (span ch.1 ch.2)).map fun x => val t x) (c := val t ch.1) (fun z => hcnt (decide_eq_true (by rw [txs_len, List.length_map]; rw [List.length_map] at z; exact z)))
        exact last "low" "high" none none ⟨nofree, fun _ x hx => hall _ (List.mem_map.mpr ⟨x, hx, rfl⟩), fun hne => absurd hev hne⟩ H5 e05
    · refine iteDF hev ?_
      refine ⟨_, rfl, pl, rfl, ⟨_, Evl.sq_of hP5⟩, for_txs (l := pts (span ch.1 ch.2)) (fun i σ' H' => Ex H5 H' ∧ (∃ v8 v9, σ' = [some (.str (S t)), some (.ref a), some (.str (S ch.1)), some (.str (S ch.2)), some (.ref pl), some (.ref D), some (.str (S [val t ch.1])), some (.str (S [val t ch.2])), v8, v9, none]) ∧
        ∀ x ∈ (pts (span ch.1 ch.2)).take i, val t x = val t ch.2 → ∀ y ∈ pts (span x ch.2), val t y ≠ val t ch.1) ⟨Ex.refl _, ⟨_, _, rfl⟩, fun x hx => by simp at hx⟩ (fun i σ' H' _ q => q.1 _ _ hP5) ?_ ?_⟩
      · rintro i x σ' H6 hi ⟨e6, ⟨v8, v9, rfl⟩, hacc⟩
        have hx : Pt n x := hptm (List.mem_of_getElem? hi)
        refine ⟨_, rfl, _, rfl, n, t, x, rfl, ht, hx, fun H7 e7 => ⟨_, rfl, rfl, _, rfl, ?_⟩⟩
        rw [vs1_inj]
        have e57 := e6.trans e7
        by_cases hxe : val t x = val t ch.2
        · refine iteD hxe ?_
          have hc2 : Cb n (span x ch.2) := span_cb hx.cb pb.len
          refine ⟨_, rfl, _, rfl, n, x, ch.2, rfl, hx.len, pb.len, h4, fun H8 e8 => ⟨n, span x ch.2, rfl, hc2, h4, fun H9 pl2 e9 hpl2 hP2 => ⟨pl2, rfl, ⟨_, Evl.sq_of hP2⟩, ?_⟩⟩⟩
          have e59 := (e57.trans e8).trans e9
          refine for_txs (l := pts (span x ch.2)) (fun j σ' H' => Ex H9 H' ∧ (∃ v9, σ' = [some (.str (S t)), some (.ref a), some (.str (S ch.1)), some (.str (S ch.2)), some (.ref pl), some (.ref D), some (.str (S [val t ch.1])), some (.str (S [val t ch.2])), some (.str (S x)), v9, none]) ∧
            ∀ y ∈ (pts (span x ch.2)).take j, val t y ≠ val t ch.1) ⟨Ex.refl _, ⟨_, rfl⟩, fun x hx => by simp at hx⟩ (fun i σ' H' _ q => q.1 _ _ hP2) ?_ ?_
          · rintro j y σ' H10 hj ⟨e10, ⟨v9, rfl⟩, hy⟩
            have hyp : Pt n y := pts_pt hc2 (List.mem_of_getElem? hj)
            refine ⟨_, rfl, _, rfl, n, t, y, rfl, ht, hyp, fun H11 e11 => ⟨_, rfl, rfl, _, rfl, ?_⟩⟩
            rw [vs1_inj]
            by_cases hys : val t y = val t ch.1
            · refine iteD hys ?_
              show Q (.str (Str.ofString "uneven")) H11
              rw [lit "uneven" (l := q "uneven") rfl]
              exact k H11 _ (((e05.trans e59).trans e10).trans e11) (notfree _ nunev)
            · refine iteDF hys ⟨e10.trans e11, ⟨_, rfl⟩, fun z hz => ?_⟩
              rw [take_at hj] at hz
              rcases List.mem_append.mp hz with hz | hz
              · exact hy z hz
              · rw [List.mem_singleton.mp hz]
                exact hys
          · rintro σ' H10 ⟨e10, ⟨v9, rfl⟩, hy⟩
            rw [List.take_length] at hy
            refine ⟨e59.trans e10, ⟨_, _, rfl⟩, fun z hz => ?_⟩
            rw [take_at hi] at hz
            rcases List.mem_append.mp hz with hz | hz
            · exact hacc z hz
            · rw [List.mem_singleton.mp hz]
              exact fun _ => hy
        · refine iteDF hxe ⟨e57, ⟨_, _, rfl⟩, fun z hz => ?_⟩
          rw [take_at hi] at hz
          rcases List.mem_append.mp hz with hz | hz
          · exact hacc z hz
          · rw [List.mem_singleton.mp hz]
            exact fun h => absurd h hxe
      · rintro σ' H6 ⟨e6, ⟨v8, v9, rfl⟩, hacc⟩
        rw [List.take_length] at hacc
        exact last "rise" "fall" v8 v9 ⟨nofree, fun h => absurd h hev, fun _ => hacc⟩ H6 (e05.trans e6)
end
end Sc

namespace Sc
open PySem L2
open Evl (Ex Ev)
/-- a row of the kinds stands at a -/
def RowAt (H : Hp) (a : Addr) (r : (L × L) × L) : Prop := ∃ c, H a = some (.tup [.ref c, .str (S r.2)]) ∧ ChAt H c r.1
theorem RowAt.ex {H H' : Hp} {a : Addr} {r : (L × L) × L} (h : RowAt H a r) (e : Ex H H') : RowAt H' a r := let ⟨c, h1, h2⟩ := h; ⟨c, e _ _ h1, e _ _ h2⟩
structure GoodRow (n : Nat) (t : L) (r : (L × L) × L) : Prop where
  a : Pt n r.1.1
  b : Pt n r.1.2
  ne : r.1.1 ≠ r.1.2
  pl : PlainK r.2 → PlainCh t r.1.1 r.1.2
theorem GoodRow.good {n : Nat} {t : L} {r : (L × L) × L} (h : GoodRow n t r) (p : PlainK r.2) : GoodCh n t r.1 := ⟨h.a, h.b, h.ne, h.pl p⟩
/-- a list of rows stands at l -/
structure RowsAt (n : Nat) (t : L) (H : Hp) (l : Addr) (as : List Addr) : Prop where
  at_ : H l = some (.lst (refs as))
  few : as.length ≤ 256
  row : ∀ a ∈ as, ∃ r, RowAt H a r ∧ GoodRow n t r
/-- a list of good changes stands at l -/
structure GoodAt (n : Nat) (t : L) (H : Hp) (l : Addr) (cs : List Addr) : Prop where
  at_ : H l = some (.lst (refs cs))
  few : cs.length ≤ 256
  chg : ∀ a ∈ cs, ∃ ch, ChAt H a ch ∧ GoodCh n t ch
theorem RowsAt.ex {n : Nat} {t : L} {H H' : Hp} {l : Addr} {as : List Addr} (h : RowsAt n t H l as) (e : Ex H H') : RowsAt n t H' l as := ⟨e _ _ h.at_, h.few, fun a ha => let ⟨r, h1, h2⟩ := h.row a ha; ⟨r, h1.ex e, h2⟩⟩
theorem GoodAt.ex {n : Nat} {t : L} {H H' : Hp} {l : Addr} {cs : List Addr} (h : GoodAt n t H l cs) (e : Ex H H') : GoodAt n t H' l cs := ⟨e _ _ h.at_, h.few, fun a ha => let ⟨r, h1, h2⟩ := h.chg a ha; ⟨r, e _ _ h1, h2⟩⟩
theorem refs_app (a b : List Addr) : refs a ++ refs b = refs (a ++ b) := by
  unfold refs
  rw [List.map_append]
theorem refs_len (a : List Addr) : (refs a).length = a.length := List.length_map ..
theorem refs_at {l : List Addr} {i : Nat} {y : V} (h : (refs l)[i]? = some y) : ∃ r, l[i]? = some r ∧ y = .ref r := by
  unfold refs at h
  rw [List.getElem?_map] at h
  cases e : l[i]? with
  | none =>
    rw [e] at h
    cases h
  | some r =>
    rw [e] at h
    exact ⟨r, rfl, (Option.some.inj h).symm⟩
theorem walk_refs {K : PySem.W.Frag} {a : Addr} {l : List Addr} : Walk (Itl K a) l.length (fun H => H a = some (.lst (refs l))) (fun i H x H' => H' = H ∧ ∃ r, l[i]? = some r ∧ x = .ref r) := by
  have e : (refs l).length = l.length := List.length_map ..
  have w := walk_list (K := K) (a := a) (xs := refs l)
  rw [e] at w
  exact w.mono (fun H h => Evl.sq_of h) fun i H x H' _ _ y => ⟨y.1, refs_at y.2⟩
section
variable {P : Program} {w : World} {K : PySem.W.Frag} {mg : Str → Option Value} {base : Heap}
abbrev sKinds : Stmt := top 54
def spKinds : Sp := fun vs H Q _ => ∃ (n : Nat) (t : L), vs = [.str (S t), .int ((n : Nat) : Int)] ∧ Tb n t ∧ ∀ H' l as, Ex H H' → H l = none → RowsAt n t H' l as → Q (.ref l) H'
theorem ok_kinds {f : Addr} {fd : FuncData} (F : C8.Def K mg "_law_kinds" sKinds f fd) (b : Binds K fd ["_law_text_here", "_law_n"] []) (cP : C8.Cal P w K mg base 1 "_law_points" spPoints []) (cK : C8.Cal P w K mg base 2 "_law_kind" spKind []) : C8.Cal P w K mg base 3 "_law_kinds" spKinds [] := by
  have sc : FnScope ["_law_text_here", "_law_n", "_law_points_here", "_law_found", "_law_start", "_law_end"] ["_law_text_here", "_law_n"] (C8.fnScope sKinds) := C8.fnScope_by (by decide +kernel)
  refine C8.cal0 F b .nil sc (fun vs H Q E h => ?_) (fun cdv A outer s H vs Q E hr h => ?_)
  · obtain ⟨n, t, rfl, _⟩ := h
    rfl
  · obtain ⟨n, t, rfl, ht, k⟩ := h
    refine ⟨_, pss_cons (ps_set (i := 2) sc.nd rfl (.inl rfl) (C8.pe_c cP hr (by decide) (by rfl) (pa_cons (pe_op op_repC pe_str (pv 1)) pa_nil)))
      (pss_cons (ps_set (i := 3) sc.nd rfl (.inl rfl) (pe_lst pa_nil))
      (pss_cons (ps_for PassesOwn.never rfl (pi_list (pv 2)) (pg_name (i := 4) sc.nd rfl (.inl rfl))
        (pss_one (ps_for PassesOwn.never rfl (pi_list (pv 2)) (pg_name (i := 5) sc.nd rfl (.inl rfl))
          (pss_one (ps_if (pt_cmpR op_ne (pv 4) (pv 5) (nomark _))
            (pss_one (ps_expr (pe_bm PySem.F.plainAttrs_list PySem.F.slot_list_append PySem.F.type_list_append mt_append (pv 3)
              (pa_cons (pe_tup (pa_cons (pe_tup (pa_cons (pv 4) (pa_cons (pv 5) pa_nil))) (pa_cons (C8.pe_c cK hr (by decide) (by rfl) (pa_cons (pv 0) (pa_cons (pe_tup (pa_cons (pv 4) (pa_cons (pv 5) pa_nil))) pa_nil))) pa_nil))) pa_nil)))) pss_nil)))))
      (pss_one (ps_ret (pv 3))))), ?_⟩
    have h4 := ht.hi
    refine ⟨_, rfl, 45, n, rfl, rfl, by omega, n, List.replicate n 45, rfl, cb_full n, h4, fun H1 pl e1 hpl hP => ?_⟩
    have hlen : (pts (List.replicate n 45)).length ≤ 16 := pts_len List.length_replicate h4
    refine ⟨Nat.zero_le _, fun fl hfl => ?_⟩
    have npf : pl ≠ fl := fun z => by rw [← z, hP] at hfl; cases hfl
    have hf0 : H fl = none := Evl.fresh_back e1 hfl
    refine ⟨_, rfl, pl, rfl, ⟨_, Evl.sq_of (by rw [upd_ne npf]; exact hP)⟩, for_txs (l := pts (List.replicate n 45)) (fun i σ' H' => Ex H H' ∧ H' pl = some (.lst (txs (pts (List.replicate n 45)))) ∧ (∃ v4 v5, σ' = [some (.str (S t)), some (.int ((n : Nat) : Int)), some (.ref pl), some (.ref fl), v4, v5]) ∧
      ∃ as : List Addr, H' fl = some (.lst (refs as)) ∧ as.length ≤ 16 * i ∧ ∀ a ∈ as, ∃ r, RowAt H' a r ∧ GoodRow n t r) ⟨e1.trans (Ex.new hfl), by rw [upd_ne npf]; exact hP, ⟨_, _, rfl⟩, [], upd_same, Nat.zero_le _, fun _ h => nomatch h⟩ (fun i σ' H' _ q => q.2.1) ?_ ?_⟩
    · rintro i x σ' H2 hi ⟨e2, hP2, ⟨v4, v5, rfl⟩, as, hfl2, has, hrow⟩
      have hx : Pt n x := pts_pt (cb_full n) (List.mem_of_getElem? hi)
      have hi16 : i < 16 := by have := (List.getElem?_eq_some_iff.mp hi).1; omega
      refine ⟨_, rfl, pl, rfl, ⟨_, Evl.sq_of hP2⟩, for_txs (l := pts (List.replicate n 45)) (fun j σ' H' => Ex H H' ∧ H' pl = some (.lst (txs (pts (List.replicate n 45)))) ∧ (∃ v5, σ' = [some (.str (S t)), some (.int ((n : Nat) : Int)), some (.ref pl), some (.ref fl), some (.str (S x)), v5]) ∧
        ∃ as : List Addr, H' fl = some (.lst (refs as)) ∧ as.length ≤ 16 * i + j ∧ ∀ a ∈ as, ∃ r, RowAt H' a r ∧ GoodRow n t r) ⟨e2, hP2, ⟨_, rfl⟩, as, hfl2, has, hrow⟩ (fun i σ' H' _ q => q.2.1) ?_ ?_⟩
      · rintro j y σ' H3 hj ⟨e3, hP3, ⟨v5, rfl⟩, as, hfl3, has, hrow⟩
        have hy : Pt n y := pts_pt (cb_full n) (List.mem_of_getElem? hj)
        have hj16 : j < 16 := by have := (List.getElem?_eq_some_iff.mp hj).1; omega
        refine ⟨_, rfl, _, rfl, rfl, _, rfl, ?_⟩
        rw [vs_inj]
        by_cases hxy : x = y
        · refine iteNS hxy ⟨e3, hP3, ⟨_, rfl⟩, as, hfl3, by omega, hrow⟩
        · refine iteNF hxy ?_
          refine ⟨_, rfl, .inl ⟨rfl, _, Evl.sq_of hfl3⟩, _, rfl, _, rfl, two_le _ _, fun c1 hc1 => ⟨_, rfl, _, rfl, _, rfl, two_le _ _, fun c2 hc2 => ?_⟩⟩
          have e4 := Ex.new (o := .tup [.str (S x), .str (S y)]) hc1
          have e5 := Ex.new (o := .tup [.str (S x), .str (S y)]) hc2
          have g1 : ChAt (upd H3 c1 (.tup [.str (S x), .str (S y)])) c1 (x, y) := upd_same
          have g2 : ChAt (upd (upd H3 c1 (.tup [.str (S x), .str (S y)])) c2 (.tup [.str (S x), .str (S y)])) c2 (x, y) := upd_same
          refine ⟨n, c2, t, (x, y), rfl, ht, g2, hx, hy, fun H6 kk e6 hk => ⟨two_le _ _, fun rw_ hrw => ?_⟩⟩
          have e7 := Ex.new (o := .tup [.ref c1, .str (S kk)]) hrw
          have e37 := ((e4.trans e5).trans e6).trans e7
          have hfl7 := e37 _ _ hfl3
          refine ⟨fl, _, _, rfl, rfl, hfl7, small1000 (by rw [refs_len]; omega), ?_⟩
          have nfa : ∀ {a : Addr} {u : List V}, upd H6 rw_ (.tup [.ref c1, .str (S kk)]) a = some (.tup u) → a ≠ fl := fun h z => by rw [z, hfl7] at h; cases h
          have npf' : pl ≠ fl := npf
          have keep : ∀ {a : Addr} {r : (L × L) × L}, RowAt (upd H6 rw_ (.tup [.ref c1, .str (S kk)])) a r → RowAt (upd (upd H6 rw_ (.tup [.ref c1, .str (S kk)])) fl (.lst (refs as ++ [.ref rw_]))) a r := fun ⟨c, h1, h2⟩ => ⟨c, by rw [upd_ne (nfa h1)]; exact h1, by show upd _ fl _ c = _; rw [upd_ne (nfa h2)]; exact h2⟩
          refine ⟨Ex.mut (e3.trans e37) hf0, by rw [upd_ne npf]; exact e37 _ _ hP3, ⟨_, rfl⟩, as ++ [rw_], ?_, by rw [List.length_append]; show _ + 1 ≤ _; omega, fun a ha => ?_⟩
          · rw [upd_same]
            exact congrArg (fun q => some (HO.lst q)) (refs_app as [rw_])
          · rcases List.mem_append.mp ha with ha | ha
            · obtain ⟨r, h1, h2⟩ := hrow a ha
              exact ⟨r, keep (h1.ex e37), h2⟩
            · rw [List.mem_singleton.mp ha]
              exact ⟨((x, y), kk), keep ⟨c1, upd_same, e7 _ _ (e6 _ _ (e5 _ _ g1))⟩, hx, hy, hxy, hk⟩
      · rintro σ' H3 ⟨e3, hP3, ⟨v5, rfl⟩, as, hfl3, has, hrow⟩
        exact ⟨e3, hP3, ⟨_, _, rfl⟩, as, hfl3, by omega, hrow⟩
    · rintro σ' H2 ⟨e2, hP2, ⟨v4, v5, rfl⟩, as, hfl2, has, hrow⟩
      exact ⟨_, rfl, k H2 fl as e2 hf0 ⟨hfl2, by omega, hrow⟩⟩
/-- the changes of the rows that a test keeps -/
theorem lc_rows {n : Nat} {t : L} {kl D : Addr} {as : List Addr} {j : Nat} {tt : TT} {te : TE} {vs : List Nat} {σ : L2.St} {H1 : Hp} {Qd : Hp → Prop} (hR : RowsAt n t H1 kl as) (hD : H1 D = none) (hw : ∀ x, wipe ((wipe σ vs).set j (some x)) vs = wipe σ vs)
    (hs : ∀ a r c H (Y N : Hp → Prop), RowAt H a r → H a = some (.tup [.ref c, .str (S r.2)]) → (∀ H', Ex H H' → PlainK r.2 → Y H') → (∀ H', Ex H H' → N H') → tt ((wipe σ vs).set j (some (.ref a))) H fun b H3 => if b = true then Y H3 else N H3)
    (he : ∀ a c k H (Q : VK), H a = some (.tup [.ref c, .str (S k)]) → Q (.ref c) H → te ((wipe σ vs).set j (some (.ref a))) H Q)
    (hd : ∀ H cs, Ex H1 H → GoodAt n t H D cs → Qd H) :
    ∃ W : Nat → Nat → Hp → Prop, (∃ m, W 0 m (upd H1 D (.lst []))) ∧ ∀ i m H, W i m H →
      ((Itl K kl).stop i H ∧ Qd H) ∨ ((Itl K kl).go i H ∧ ∃ Nx : Hp → Prop, (∀ H', Nx H' → ∃ m', m' < m ∧ W (i + 1) m' H') ∧ ∀ x H', (Itl K kl).yld i H x H' → gName j x (wipe σ vs) H' fun σ2 H2 => wipe σ2 vs = wipe σ vs ∧ tt σ2 H2 fun b H3 =>
        if b = true then te σ2 H3 fun y H4 => ∃ acc, H4 D = some (.lst acc) ∧ acc.length < sizeLine ∧ Nx (upd H4 D (.lst (acc ++ [y]))) else Nx H3) := by
  have few := hR.few
  refine lc_it (walk_refs (K := K) (a := kl) (l := as)) (fun i H => Ex H1 H ∧ ∃ cs : List Addr, H D = some (.lst (refs cs)) ∧ cs.length ≤ i ∧ ∀ a ∈ cs, ∃ ch, ChAt H a ch ∧ GoodCh n t ch) ⟨Ex.new hD, [], upd_same, Nat.zero_le _, fun _ h => nomatch h⟩ (fun i H _ q => q.1 _ _ hR.at_) (fun i x H H' hi ⟨e, cs, hH, hl, hc⟩ y => ?_) (fun H ⟨e, cs, hH, hl, hc⟩ => hd H cs e ⟨hH, by omega, hc⟩)
  obtain ⟨rfl, a, ha, rfl⟩ := y
  obtain ⟨r, hr, g⟩ := hR.row a (List.mem_of_getElem? ha)
  have hr2 := hr.ex e
  obtain ⟨c, h1, h2⟩ := id hr2
  refine ⟨hw _, hs a r c H' _ _ hr2 h1 (fun H3 e3 hp => he a c r.2 H3 _ (e3 _ _ h1) ⟨_, e3 _ _ hH, small1000 (by rw [refs_len]; omega), Ex.mut (e.trans e3) hD, cs ++ [c], ?_, by rw [List.length_append]; show _ + 1 ≤ _; omega, fun b hb => ?_⟩) (fun H3 e3 => ⟨e.trans e3, cs, e3 _ _ hH, by omega, fun b hb => let ⟨ch, z1, z2⟩ := hc b hb; ⟨ch, e3 _ _ z1, z2⟩⟩)⟩
  · rw [upd_same]
    exact congrArg (fun q => some (HO.lst q)) (refs_app cs [c])
  · have nD : ∀ {a : Addr} {ch : L × L}, ChAt H3 a ch → ChAt (upd H3 D (.lst (refs cs ++ [.ref c]))) a ch := fun {a ch} h => by
      show upd H3 D _ a = _
      rw [upd_ne (ne_of h (e3 _ _ hH) (by intro z; cases z))]
      exact h
    rcases List.mem_append.mp hb with hb | hb
    · obtain ⟨ch, z1, z2⟩ := hc b hb
      exact ⟨ch, nD (e3 _ _ z1), z2⟩
    · rw [List.mem_singleton.mp hb]
      exact ⟨r.1, nD (e3 _ _ h2), g.good hp⟩
/-- x[j] of a tuple, x in slot i -/
abbrev tIx (K : PySem.W.Frag) (i : Nat) (j : Int) : TE := tOp (rIxT K) (tVar i) (tC (.int j))
abbrev tW (w : String) : TE := tC (.str (Str.ofString w))
theorem in_kinds {k : L} {l : List L} (h : inV (.str (S k)) (txs l) = true) (hp : ∀ x ∈ l, PlainK x) : PlainK k := hp k (inV_txs.mp h)
abbrev sPlain : Stmt := top 55
def spPlain : Sp := fun vs H Q _ => ∃ (n : Nat) (t : L) (kl : Addr) (as : List Addr), vs = [.ref kl] ∧ RowsAt n t H kl as ∧ ∀ H' l cs, Ex H H' → H l = none → GoodAt n t H' l cs → Q (.ref l) H'
theorem ok_plain {f : Addr} {fd : FuncData} (F : C8.Def K mg "_law_plain" sPlain f fd) (b : Binds K fd ["_law_kinds_here"] []) : C8.Cal P w K mg base 1 "_law_plain" spPlain [] := by
  have sc : FnScope ["_law_kinds_here", "_law_row"] ["_law_kinds_here"] (C8.fnScope sPlain) := C8.fnScope_by (by decide +kernel)
  refine C8.cal0 F b .nil sc (fun vs H Q E h => ?_) (fun cdv A outer s H vs Q E hr h => ?_)
  · obtain ⟨n, t, kl, as, rfl, _⟩ := h
    rfl
  · obtain ⟨n, t, kl, as, rfl, hR, k⟩ := h
    refine ⟨_, pss_one (ps_ret (pe_lc (own := [("_law_row", 1)]) (g := gName 1) (tt := tTest (tOp (rIn K false) (tIx K 1 1) (tTup (tCons (tW "low") (tCons (tW "high") (tCons (tW "rise") (tCons (tW "fall") tNil))))))) (te := tIx K 1 0) rfl sc.nd (pi_list (pv 0)) (blkOk_by (N := ["_law_kinds_here", "_law_row"]) (sc := C8.fnScope sPlain) (by decide +kernel))
      (fun _ _ _ _ _ => pg_name (i := 1) sc.nd rfl (Or.inl rfl)) (fun _ _ _ _ _ => pts_one (pt_cmpR op_in_seq (pe_ix ix_tup (pv 1) pe_int (fun _ _ => rfl)) (pe_tup (pa_cons pe_str (pa_cons pe_str (pa_cons pe_str (pa_cons pe_str pa_nil))))) rfl)) (fun _ _ _ _ _ => pe_ix ix_tup (pv 1) pe_int (fun _ _ => rfl)))), ?_⟩
    refine ⟨_, rfl, kl, rfl, ⟨_, Evl.sq_of hR.at_⟩, fun D hD => ?_⟩
    refine lc_rows hR hD (fun _ => rfl) (fun a r c H2 Y N hr h1 hy hn => ?_) (fun a c kk H2 Q h1 q => ?_) (fun H2 cs e2 hg => k H2 D cs e2 hD hg)
    · have at1 : atI [V.ref c, .str (S r.2)] 1 = some (.str (S r.2)) := rfl
      refine ⟨_, rfl, a, _, _, _, rfl, rfl, Evl.st_of h1, at1, Nat.le_of_lt (small1000 (by show 4 ≤ 1000; decide)), fun tp htp => ?_⟩
      have e3 := Ex.new (o := .tup [.str (Str.ofString "low"), .str (Str.ofString "high"), .str (Str.ofString "rise"), .str (Str.ofString "fall")]) htp
      have et : [V.str (Str.ofString "low"), .str (Str.ofString "high"), .str (Str.ofString "rise"), .str (Str.ofString "fall")] = txs [q "low", q "high", q "rise", q "fall"] := by
        rw [lit "low" (l := q "low") rfl, lit "high" (l := q "high") rfl, lit "rise" (l := q "rise") rfl, lit "fall" (l := q "fall") rfl]
        rfl
      refine ⟨tp, _, rfl, .inr (Evl.st_of upd_same), rfl, by rw [et]; exact flat_txs _, _, rfl, ?_⟩
      refine ite2 (fun hin => hy _ e3 ?_) (fun _ => hn _ e3)
      have hin' : inV (.str (S r.2)) [V.str (Str.ofString "low"), .str (Str.ofString "high"), .str (Str.ofString "rise"), .str (Str.ofString "fall")] = true := hin
      rw [et] at hin'
      refine in_kinds hin' fun x hx => ?_
      simp only [List.mem_cons, List.not_mem_nil, or_false] at hx
      exact hx
    · exact ⟨_, rfl, a, _, _, _, rfl, rfl, Evl.st_of h1, (rfl : atI [V.ref c, .str (S kk)] 0 = some (.ref c)), q⟩
end
end Sc

namespace Sc
open PySem L2
open Evl (Ex Ev)
theorem GoodAt.kp {n : Nat} {t : L} {H H' : Hp} {l p b : Addr} {cs : List Addr} (h : GoodAt n t H l cs) (k : Kp p H H') (s : SrcAt H p b) (hl : l ≠ p) : GoodAt n t H' l cs := by
  obtain ⟨ns, i, h0, m, x, g1, _⟩ := s
  refine ⟨k _ _ hl h.at_, h.few, fun a ha => ?_⟩
  obtain ⟨ch, z1, z2⟩ := h.chg a ha
  exact ⟨ch, k _ _ (ne_of z1 g1 (by intro z; cases z)) z1, z2⟩
theorem GoodAt.upd {n : Nat} {t : L} {H : Hp} {l g : Addr} {cs : List Addr} {xs : List V} {o : HO} (h : GoodAt n t H l cs) (hg : H g = some (.lst xs)) (hl : l ≠ g) : GoodAt n t (upd H g o) l cs := by
  refine ⟨by rw [upd_ne hl]; exact h.at_, h.few, fun a ha => ?_⟩
  obtain ⟨ch, z1, z2⟩ := h.chg a ha
  refine ⟨ch, ?_, z2⟩
  show L2.upd H g o a = _
  rw [upd_ne (ne_of z1 hg (by intro z; cases z))]
  exact z1
/-- the changes themselves -/
theorem good_chs {n : Nat} {t : L} {H : Hp} : ∀ {cs : List Addr}, (∀ a ∈ cs, ∃ ch, ChAt H a ch ∧ GoodCh n t ch) → ∃ chs, ChsAt H cs chs ∧ ∀ ch ∈ chs, GoodCh n t ch
  | [], _ => ⟨[], ⟨rfl, fun i c ch h _ => by simp at h⟩, fun _ h => nomatch h⟩
  | c :: cs, h => by
    obtain ⟨chs, h1, h2⟩ := good_chs (cs := cs) fun a ha => h a (List.mem_cons_of_mem _ ha)
    obtain ⟨ch, z1, z2⟩ := h c List.mem_cons_self
    refine ⟨ch :: chs, ⟨by rw [List.length_cons, List.length_cons, h1.len], fun i x y g1 g2 => ?_⟩, fun y hy => ?_⟩
    · cases i with
      | zero =>
        cases g1
        cases g2
        exact z1
      | succ i => exact h1.at_ i x y (by simpa using g1) (by simpa using g2)
    · rcases List.mem_cons.mp hy with rfl | hy
      · exact z2
      · exact h2 y hy
def rCnt : V → List V → Hp → VK → Prop := fun x xs H Q => ∃ a b, x = .str a ∧ xs = [.str b] ∧ Q (.int (Txt.count a b)) H
theorem mt_cnt {X : Cx} : MtR X "str.count" rCnt := mt_count
section
variable {P : Program} {w : World} {K : PySem.W.Frag} {mg : Str → Option Value} {base : Heap}
abbrev sChanges : Stmt := top 56
def spChanges : Sp := fun vs H Q _ => ∃ (n : Nat) (t : L) (p b kl : Addr) (as : List Addr), vs = [.ref p, .ref kl, .int 8] ∧ SrcAt H p b ∧ RowsAt n t H kl as ∧ n ≤ 4 ∧
  ∀ H' l cs, Kp p H H' → SrcAt H' p b → H l = none → GoodAt n t H' l cs → cs.length ≤ 8 → Q (.ref l) H'
abbrev nChanges : List Str := ["_law_source_here", "_law_kinds_here", "_law_most", "_law_plain_here", "_law_steep", "_law_wide", "_law_changes_here", "_law_k", "_law_pool", "_law_choice", "_law_row", "_law_change"]
abbrev slC (p kl pl st wd gl : Addr) (v7 v8 v9 : Option V) : L2.St := [some (.ref p), some (.ref kl), some (.int 8), some (.ref pl), some (.ref st), some (.ref wd), some (.ref gl), v7, v8, v9, none, none]
theorem ok_changes {f : Addr} {fd : FuncData} (F : C8.Def K mg "_law_changes" sChanges f fd) (b : Binds K fd ["_law_source_here", "_law_kinds_here", "_law_most"] []) (T : Blt mg) (cD : C8.Cal P w K mg base 1 "_law_draw" spDraw []) (cP : C8.Cal P w K mg base 1 "_law_plain" spPlain [])
    (cS : C8.Cal P w K mg base 1 "_law_span" spSpan []) : C8.Cal P w K mg base 2 "_law_changes" spChanges [] := by
  have sc : FnScope nChanges ["_law_source_here", "_law_kinds_here", "_law_most"] (C8.fnScope sChanges) := C8.fnScope_by (by decide +kernel)
  refine C8.cal0 F b .nil sc (fun vs H Q E h => ?_) (fun cdv A outer s H vs Q E hr h => ?_)
  · obtain ⟨n, t, p, b0, kl, as, rfl, _⟩ := h
    rfl
  · obtain ⟨n, t, p, b0, kl, as, rfl, hs, hR, h4, k⟩ := h
    refine ⟨_, pss_cons (ps_set (i := 3) sc.nd rfl (.inl rfl) (C8.pe_c cP hr (by decide) (by rfl) (pa_cons (pv 1) pa_nil)))
      (pss_cons (ps_setLc (i := 4) (own := [("_law_row", 10)]) (g := gName 10) (tt := tTest (tOp (rIn K false) (tIx K 10 1) (tTup (tCons (tW "rise") (tCons (tW "fall") tNil))))) (te := tIx K 10 0) rfl sc.nd rfl rfl (sw_true rfl rfl rfl (by decide +kernel)) (pi_list (pv 1)) (blkOk_by (N := nChanges) (sc := C8.fnScope sChanges) (by decide +kernel))
        (fun _ _ _ _ _ => pg_name (i := 10) sc.nd rfl (Or.inl rfl)) (fun _ _ _ _ _ => pts_one (pt_cmpR op_in_seq (pe_ix ix_tup (pv 10) pe_int (fun _ _ => rfl)) (pe_tup (pa_cons pe_str (pa_cons pe_str pa_nil))) rfl)) (fun _ _ _ _ _ => pe_ix ix_tup (pv 10) pe_int (fun _ _ => rfl)))
      (pss_cons (ps_setLc (i := 5) (own := [("_law_change", 11)]) (g := gName 11) (tt := tTest (tOp (rI0 fun i j => .bl (decide (j < i))) (tM1 rCnt (tCall spSpan [] C8.E0 (tCons (tIx K 11 0) (tCons (tIx K 11 1) tNil))) (tW "-")) (tC (.int 1)))) (te := tVar 11) rfl sc.nd rfl rfl (sw_true rfl rfl rfl (by decide +kernel)) (pi_list (pv 4)) (blkOk_by (N := nChanges) (sc := C8.fnScope sChanges) (by decide +kernel))
        (fun _ _ _ _ _ => pg_name (i := 11) sc.nd rfl (Or.inl rfl)) (fun _ _ _ _ _ => pts_one (pt_cmpR op_gt (pe_m1 PySem.F.slot_str_count PySem.F.type_str_count mt_cnt (C8.pe_c cS hr (by decide) (by rfl) (pa_cons (pe_ix ix_tup (pv 11) pe_int (fun _ _ => rfl)) (pa_cons (pe_ix ix_tup (pv 11) pe_int (fun _ _ => rfl)) pa_nil))) pe_str) pe_int (nomark _))) (fun _ _ _ _ _ => pv 11))
      (pss_cons (ps_set (i := 6) sc.nd rfl (.inl rfl) (pe_lst pa_nil))
      (pss_cons (ps_for PassesOwn.never rfl (pi_range1 (by rfl) T.rng (pa_cons (C8.pe_c cD hr (by decide) (by rfl) (pa_cons (pv 0) (pa_cons (pe_op op_add (pv 2) pe_int) pa_nil))) pa_nil)) (pg_name (i := 7) sc.nd rfl (.inl rfl))
        (pss_cons (ps_set (i := 8) sc.nd rfl (.inl rfl) (pv 3))
        (pss_cons (ps_set (i := 9) sc.nd rfl (.inl rfl) (C8.pe_c cD hr (by decide) (by rfl) (pa_cons (pv 0) (pa_cons pe_int pa_nil))))
        (C8.pss_cut (ps_if (PW.pt (pw_and (pt_cmpR op_gt (pe_callB call_len_seq (by rfl) T.len PySem.boot_len (pa_cons (pv 5) pa_nil)) pe_int (nomark _)) (pw_and1 (pt_cmpR op_gt (pv 9) pe_int (nomark _))))) (pss_one (ps_set (i := 8) sc.nd rfl (.inl rfl) (pv 5))) pss_nil)
        (C8.pss_cut (ps_if (PW.pt (pw_and (pt_cmpR op_gt (pe_callB call_len_seq (by rfl) T.len PySem.boot_len (pa_cons (pv 4) pa_nil)) pe_int (nomark _)) (pw_and1 (pt_cmpR op_eq (pv 9) pe_int (nomark _))))) (pss_one (ps_set (i := 8) sc.nd rfl (.inl rfl) (pv 4))) pss_nil)
        (pss_one (ps_if (pt_cmpR op_gt (pe_callB call_len_seq (by rfl) T.len PySem.boot_len (pa_cons (pv 8) pa_nil)) pe_int (nomark _))
          (pss_one (ps_expr (pe_bm PySem.F.plainAttrs_list PySem.F.slot_list_append PySem.F.type_list_append mt_append (pv 6) (pa_cons (pe_ix ix_list (pv 8) (C8.pe_c cD hr (by decide) (by rfl) (pa_cons (pv 0) (pa_cons (pe_callB call_len_seq (by rfl) T.len PySem.boot_len (pa_cons (pv 8) pa_nil)) pa_nil))) (fun _ _ => rfl)) pa_nil)))) pss_nil)))))))
      (pss_one (ps_ret (pv 6))))))), ?_⟩
    -- plain
    refine ⟨_, rfl, n, t, kl, as, rfl, hR, fun H1 pl cs1 e1 hpl G1 => ?_⟩
    have hR1 := hR.ex e1
    -- steep
    refine ⟨_, rfl, kl, rfl, ⟨_, Evl.sq_of hR1.at_⟩, fun st hst => ?_⟩
    refine lc_rows hR1 hst (fun _ => rfl) (fun a r c H2 Y N hr h1 hy hn => ?_) (fun a c kk H2 Q h1 q => ?_) (fun H2 cs2 e2 G2 => ?_)
    · have at1 : atI [V.ref c, .str (S r.2)] 1 = some (.str (S r.2)) := rfl
      refine ⟨_, rfl, a, _, _, _, rfl, rfl, Evl.st_of h1, at1, two_le _ _, fun tp htp => ?_⟩
      have e3 := Ex.new (o := .tup [.str (Str.ofString "rise"), .str (Str.ofString "fall")]) htp
      have et : [V.str (Str.ofString "rise"), .str (Str.ofString "fall")] = txs [q "rise", q "fall"] := by
        rw [lit "rise" (l := q "rise") rfl, lit "fall" (l := q "fall") rfl]
        rfl
      refine ⟨tp, _, rfl, .inr (Evl.st_of upd_same), rfl, by rw [et]; exact flat_txs _, _, rfl, ?_⟩
      refine ite2 (fun hin => hy _ e3 ?_) (fun _ => hn _ e3)
      have hin' : inV (.str (S r.2)) [V.str (Str.ofString "rise"), .str (Str.ofString "fall")] = true := hin
      rw [et] at hin'
      refine in_kinds hin' fun x hx => ?_
      simp only [List.mem_cons, List.not_mem_nil, or_false] at hx
      exact .inr (.inr hx)
    · exact ⟨_, rfl, a, _, _, _, rfl, rfl, Evl.st_of h1, (rfl : atI [V.ref c, .str (S kk)] 0 = some (.ref c)), q⟩
    -- wide
    refine ⟨_, rfl, st, rfl, ⟨_, Evl.sq_of G2.at_⟩, fun wd hwd => ?_⟩
    have few2 := G2.few
    refine lc_it (walk_refs (K := K) (a := st) (l := cs2)) (fun i H' => Ex H2 H' ∧ ∃ cs : List Addr, H' wd = some (.lst (refs cs)) ∧ cs.length ≤ i ∧ ∀ a ∈ cs, ∃ ch, ChAt H' a ch ∧ GoodCh n t ch) ⟨Ex.new hwd, [], upd_same, Nat.zero_le _, fun _ h => nomatch h⟩ (fun i H _ q => q.1 _ _ G2.at_) (fun i x H3 H4 hi ⟨e, cs, hH, hl, hc⟩ y => ?_) (fun H3 ⟨e3, cs3, hH3, hl3, hc3⟩ => ?_)
    · obtain ⟨rfl, a, ha, rfl⟩ := y
      obtain ⟨ch, z1, z2⟩ := G2.chg a (List.mem_of_getElem? ha)
      have z1' : H4 a = some (.tup [.str (S ch.1), .str (S ch.2)]) := e _ _ z1
      have at0 : atI [V.str (S ch.1), V.str (S ch.2)] 0 = some (.str (S ch.1)) := rfl
      have at1 : atI [V.str (S ch.1), V.str (S ch.2)] 1 = some (.str (S ch.2)) := rfl
      refine ⟨rfl, _, rfl, a, _, _, _, rfl, rfl, Evl.st_of z1', at0, _, rfl, a, _, _, _, rfl, rfl, Evl.st_of z1', at1, n, ch.1, ch.2, rfl, z2.a.len, z2.b.len, h4, fun H5 e5 => ⟨⟨_, rfl⟩, _, _, rfl, rfl, _, _, rfl, rfl, _, rfl, ?_⟩⟩
      refine ite2 (fun _ => ?_) (fun _ => ⟨e.trans e5, cs, e5 _ _ hH, by omega, fun b hb => let ⟨ch, y1, y2⟩ := hc b hb; ⟨ch, e5 _ _ y1, y2⟩⟩)
      refine ⟨_, rfl, _, e5 _ _ hH, small1000 (by rw [refs_len]; omega), Ex.mut (e.trans e5) hwd, cs ++ [a], ?_, by rw [List.length_append]; show _ + 1 ≤ _; omega, fun b hb => ?_⟩
      · rw [upd_same]
        exact congrArg (fun q => some (HO.lst q)) (refs_app cs [a])
      · have nD : ∀ {a : Addr} {ch : L × L}, ChAt H5 a ch → ChAt (upd H5 wd (.lst (refs cs ++ [.ref a]))) a ch := fun {a ch} h => by
          show upd H5 wd _ a = _
          rw [upd_ne (ne_of h (e5 _ _ hH) (by intro z; cases z))]
          exact h
        have nD' : ∀ {a' : Addr} {ch : L × L}, ChAt H5 a' ch → ChAt (upd H5 wd (.lst (refs cs ++ [.ref a]))) a' ch := fun {a' ch} h => by
          show upd H5 wd _ a' = _
          rw [upd_ne (ne_of h (e5 _ _ hH) (by intro z; cases z))]
          exact h
        rcases List.mem_append.mp hb with hb | hb
        · obtain ⟨ch, y1, y2⟩ := hc b hb
          exact ⟨ch, nD' (e5 _ _ y1), y2⟩
        · rw [List.mem_singleton.mp hb]
          exact ⟨ch, nD' (e5 _ _ z1'), z2⟩
    have G3 : GoodAt n t H3 wd cs3 := ⟨hH3, by omega, hc3⟩
    -- the loop
    refine ⟨Nat.zero_le _, fun gl hgl => ?_⟩
    have e03 := (e1.trans e2).trans e3
    have e34 := Ex.new (o := .lst []) hgl
    have e04 := e03.trans e34
    have s4 := hs.ex e04
    have ngl := (hs.ex e03).ne hgl
    have npl := hs.ne hpl
    have nst := (hs.ex e1).ne hst
    have nwd := (hs.ex (e1.trans e2)).ne hwd
    have hgl0 : H gl = none := Evl.fresh_back e03 hgl
    have n1 : pl ≠ gl := fun z => by
      have := (e2.trans e3) _ _ G1.at_
      rw [z, hgl] at this
      cases this
    have n2 : st ≠ gl := fun z => by
      have := e3 _ _ G2.at_
      rw [z, hgl] at this
      cases this
    have n3 : wd ≠ gl := fun z => by
      rw [z, hgl] at hH3
      cases hH3
    refine ⟨_, rfl, _, rfl, _, _, rfl, rfl, p, b0, 9, rfl, s4, by decide, by decide, fun H5 m k5 s5 hm => ⟨_, rfl, by omega, by omega, ?_⟩⟩
    have em : (((m : Nat) : Int)).toNat = m := by omega
    rw [em]
    refine for_it walk_range (fun i σ' H' => Kp p H H' ∧ SrcAt H' p b0 ∧ GoodAt n t H' pl cs1 ∧ GoodAt n t H' st cs2 ∧ GoodAt n t H' wd cs3 ∧ (∃ cs, GoodAt n t H' gl cs ∧ cs.length ≤ i) ∧ ∃ v7 v8 v9, σ' = slC p kl pl st wd gl v7 v8 v9)
      ⟨(Kp.of e04).trans k5, s5, (G1.ex ((e2.trans e3).trans e34)).kp k5 s4 npl.1, (G2.ex (e3.trans e34)).kp k5 s4 nst.1, (G3.ex e34).kp k5 s4 nwd.1, ⟨[], GoodAt.kp ⟨upd_same, Nat.zero_le _, fun _ h => nomatch h⟩ k5 s4 ngl.1, Nat.zero_le _⟩, _, _, _, rfl⟩ (fun _ _ _ _ _ => trivial) ?_ ?_
    · rintro i x σ' H6 H6' hi ⟨k6, s6, P1, P2, P3, ⟨cs, P4, hcs⟩, v7, v8, v9, rfl⟩ ⟨rfl, rfl⟩
      refine ⟨_, rfl, _, rfl, p, b0, 4, rfl, s6, by decide, by decide, fun H7 r7 k7 s7 hr7 => ?_⟩
      have Q1 := P1.kp k7 s6 npl.1
      have Q2 := P2.kp k7 s6 nst.1
      have Q3 := P3.kp k7 s6 nwd.1
      have Q4 := P4.kp k7 s6 ngl.1
      have k07 := k6.trans k7
      let Mid : L2.St → Hp → Prop := fun σ' H' => H' = H7 ∧ ∃ pool pcs, σ' = slC p kl pl st wd gl (some (.int (0 + ((i : Nat) : Int)))) (some (.ref pool)) (some (.int ((r7 : Nat) : Int))) ∧ GoodAt n t H7 pool pcs ∧ pool ≠ p
      refine ⟨Mid, ?_, ?_⟩
      · have no : Mid (slC p kl pl st wd gl (some (.int (0 + ((i : Nat) : Int)))) (some (.ref pl)) (some (.int ((r7 : Nat) : Int)))) H7 := ⟨rfl, pl, cs1, rfl, Q1, npl.1⟩
        refine ⟨_, rfl, wd, _, rfl, .inl (Evl.sq_of Q3.at_), _, _, rfl, rfl, _, rfl, ite2 (fun _ => ?_) (fun _ => iteF no)⟩
        exact ⟨_, rfl, _, _, rfl, rfl, _, rfl, ite2 (fun _ => ⟨_, rfl, rfl, wd, cs3, rfl, Q3, nwd.1⟩) (fun _ => no)⟩
      rintro σ' H8 ⟨rfl, pool, pcs, rfl, Qp, np⟩
      refine ⟨Mid, ?_, ?_⟩
      · have no : Mid (slC p kl pl st wd gl (some (.int (0 + ((i : Nat) : Int)))) (some (.ref pool)) (some (.int ((r7 : Nat) : Int)))) H8 := ⟨rfl, pool, pcs, rfl, Qp, np⟩
        refine ⟨_, rfl, st, _, rfl, .inl (Evl.sq_of Q2.at_), _, _, rfl, rfl, _, rfl, ite2 (fun _ => ?_) (fun _ => iteF no)⟩
        exact ⟨_, rfl, rfl, _, rfl, ite2 (fun _ => ⟨_, rfl, rfl, st, cs2, rfl, Q2, nst.1⟩) (fun _ => no)⟩
      clear Qp np pcs pool
      rintro σ' H9 ⟨rfl, pool, pcs, rfl, Qp, np⟩
      have no : ∃ cs, GoodAt n t H9 gl cs ∧ cs.length ≤ i + 1 := ⟨cs, Q4, by omega⟩
      refine ⟨_, rfl, pool, _, rfl, .inl (Evl.sq_of Qp.at_), _, _, rfl, rfl, _, rfl, ite2 (fun hpos => ?_) (fun _ => ⟨k07, s7, Q1, Q2, Q3, no, _, _, _, rfl⟩)⟩
      have hpos' : 0 < pcs.length := by
        have := of_decide_eq_true hpos
        rw [refs_len] at this
        omega
      have fp := Qp.few
      refine ⟨_, rfl, .inl ⟨rfl, _, Evl.sq_of Q4.at_⟩, _, rfl, _, rfl, _, rfl, pool, _, rfl, .inl (Evl.sq_of Qp.at_), p, b0, pcs.length, by (rw [refs_len]; rfl), s7, hpos', by omega, fun H10 r10 k10 s10 hr10 => ?_⟩
      have R1 := Q1.kp k10 s7 npl.1
      have R2 := Q2.kp k10 s7 nst.1
      have R3 := Q3.kp k10 s7 nwd.1
      have R4 := Q4.kp k10 s7 ngl.1
      have Rp := Qp.kp k10 s7 np
      have hi8 : i < 9 := by omega
      refine ⟨pool, _, _, .ref pcs[r10], rfl, rfl, Evl.sq_of Rp.at_, atI_nat (by unfold refs; rw [List.getElem?_map, List.getElem?_eq_getElem hr10] <;> rfl), gl, _, _, rfl, rfl, R4.at_, small1000 (by rw [refs_len]; omega), ?_⟩
      obtain ⟨ch, z1, z2⟩ := Rp.chg pcs[r10] (List.getElem_mem hr10)
      have nT : ∀ {a : Addr} {ch : L × L}, ChAt H10 a ch → ChAt (upd H10 gl (.lst (refs cs ++ [.ref pcs[r10]]))) a ch := fun {a ch} h => by
        show upd H10 gl _ a = _
        rw [upd_ne (ne_of h R4.at_ (by intro z; cases z))]
        exact h
      refine ⟨(k07.trans k10).mut hgl0, s10.upd ngl.1 ngl.2, R1.upd R4.at_ n1, R2.upd R4.at_ n2, R3.upd R4.at_ n3, ⟨cs ++ [pcs[r10]], ⟨?_, by rw [List.length_append]; show _ + 1 ≤ _; omega, fun a ha => ?_⟩, by rw [List.length_append]; show _ + 1 ≤ _; omega⟩, _, _, _, rfl⟩
      · rw [upd_same]
        exact congrArg (fun q => some (HO.lst q)) (refs_app cs [pcs[r10]])
      · rcases List.mem_append.mp ha with ha | ha
        · obtain ⟨ch', y1, y2⟩ := R4.chg a ha
          exact ⟨ch', nT y1, y2⟩
        · rw [List.mem_singleton.mp ha]
          exact ⟨ch, nT z1, z2⟩
    · rintro σ' H6 ⟨k6, s6, P1, P2, P3, ⟨cs, P4, hcs⟩, v7, v8, v9, rfl⟩
      exact ⟨_, rfl, k H6 gl cs k6 s6 hgl0 P4 (by omega)⟩
end
end Sc

namespace Sc
open PySem L2
open Evl (Ex Ev)
def covD : Option (List L) → PyData
  | none => .none
  | some cs => .list (cs.map fun r => PyData.str (S r))
theorem cov_dp {K : PySem.W.Frag} {H : Hp} {v : V} {cov : Option (List L)} (h : CovAt H v cov) : Dp K H v (covD cov) := by
  cases cov with
  | none =>
    obtain rfl : v = .non := h
    exact .non
  | some cs =>
    obtain ⟨a, rfl, ha⟩ := h
    exact .lst (Evl.sq_of ha) (dp_strs cs)
theorem cov_shaped {n : Nat} {cov : Option (List L)} (h : ∀ cs, cov = some cs → ∀ c ∈ cs, Cb n c) : SeqAt.shaped (covD cov) = true := by
  cases cov with
  | none => decide
  | some cs => exact shaped_strs fun c hc => (h cs rfl c hc).sg
section
variable {P : Program} {w : World} {K : PySem.W.Frag} {mg : Str → Option Value} {base : Heap} {CT CD : Addr}
abbrev sSheet : Stmt := top 57
def spSheet : Sp := fun vs H Q _ => ∃ (n : Nat) (t : L) (l : Addr) (cs : List Addr) (chs : List (L × L)) (v : V) (cov : Option (List L)), vs = [.str (S t), .ref l, v] ∧ H l = some (.lst (refs cs)) ∧ ChsAt H cs chs ∧ CovAt H v cov ∧ GoodSheet n t chs cov ∧ ∀ H', Ex H H' → Q (.str (S (sheet t chs cov))) H'
abbrev nSheet : List Str := ["_law_text_here", "_law_changes_here", "_law_cover_here", "_law_lines", "_law_change", "_law_cube_here"]
theorem ok_sheet {f : Addr} {fd : FuncData} (F : C8.Def K mg "_law_sheet" sSheet f fd) (b : Binds K fd ["_law_text_here", "_law_changes_here", "_law_cover_here"] []) : C8.Cal P w K mg base 1 "_law_sheet" spSheet [] := by
  have sc : FnScope nSheet ["_law_text_here", "_law_changes_here", "_law_cover_here"] (C8.fnScope sSheet) := C8.fnScope_by (by decide +kernel)
  refine C8.cal0 F b .nil sc (fun vs H Q E h => ?_) (fun cdv A outer s H vs Q E hr h => ?_)
  · obtain ⟨n, t, l, cs, chs, v, cov, rfl, _⟩ := h
    rfl
  · obtain ⟨n, t, l, cs, chs, v, cov, rfl, hl, hcs, hv, g, k⟩ := h
    refine ⟨_, pss_cons (ps_set (i := 3) sc.nd rfl (.inl rfl) (pe_lst (pa_cons (pe_op op_add_str pe_str (pv 0)) pa_nil)))
      (pss_cons (ps_for PassesOwn.never rfl (pi_list (pv 1)) (pg_name (i := 4) sc.nd rfl (.inl rfl))
        (pss_one (ps_expr (pe_bm PySem.F.plainAttrs_list PySem.F.slot_list_append PySem.F.type_list_append mt_append (pv 3) (pa_cons (pe_op op_add_str (pe_op op_add_str (pe_op op_add_str pe_str (pe_ix ix_tup (pv 4) pe_int (fun _ _ => rfl))) pe_str) (pe_ix ix_tup (pv 4) pe_int (fun _ _ => rfl))) pa_nil)))))
      (C8.pss_cut (ps_if (pt_cmpR op_notN (pv 2) pe_non (nomark _))
        (pss_cons (ps_expr (pe_bm PySem.F.plainAttrs_list PySem.F.slot_list_append PySem.F.type_list_append mt_append (pv 3) (pa_cons pe_str pa_nil)))
        (pss_one (ps_for PassesOwn.never rfl (pi_list (pv 2)) (pg_name (i := 5) sc.nd rfl (.inl rfl))
          (pss_one (ps_expr (pe_bm PySem.F.plainAttrs_list PySem.F.slot_list_append PySem.F.type_list_append mt_append (pv 3) (pa_cons (pe_op op_add_str pe_str (pv 5)) pa_nil))))))) pss_nil)
      (pss_one (ps_ret (pe_op op_add_str (pe_join pe_str (pv 3)) pe_str))))), ?_⟩
    have h16 := pow_le g.tb.hi
    have hi4 := g.tb.hi
    have few := g.few
    refine ⟨_, rfl, _, _, rfl, rfl, ?_, one_le _, fun wl hw => ?_⟩
    · rw [lit "table " (l := q "table ") rfl, SX.S_len, SX.S_len, g.tb.len]
      exact Nat.le_of_lt (small1000 (by have : (q "table ").length = 6 := (by decide); omega))
    have e0 : Str.ofString "table " ++ S t = S (lineT t) := by rw [lit "table " (l := q "table ") rfl, SX.S_cat]; rfl
    rw [e0]
    have x0 := Ex.new (o := .lst [.str (S (lineT t))]) hw
    have sn : ∀ (xs : List L) (y : L), txs xs ++ [.str (S y)] = txs (xs ++ [y]) := fun xs y => txs_app xs [y]
    refine ⟨_, rfl, l, rfl, ⟨_, Evl.sq_of (x0 _ _ hl)⟩, ?_⟩
    refine for_it (walk_lchs (K := K) (l := l) (cs := cs) hcs.len) (fun i σ' H' => Ex H H' ∧ H' wl = some (.lst (txs (lineT t :: (chs.take i).map lineC))) ∧ ∃ v4, σ' = [some (.str (S t)), some (.ref l), some v, some (.ref wl), v4, none]) ⟨x0, upd_same, _, rfl⟩ (fun i σ' H' _ p => ⟨p.1 _ _ hl, hcs.ex p.1⟩) ?_ ?_
    · rintro i x σ' H1 H1' hi ⟨e1, h1, v4, rfl⟩ ⟨rfl, c, ch, rfl, hch, hc⟩
      have gc := g.good ch (List.mem_of_getElem? hch)
      have l1 := gc.a.len
      have l2 := gc.b.len
      have hi' := (List.getElem?_eq_some_iff.mp hch).1
      have at0 : atI [V.str (S ch.1), V.str (S ch.2)] 0 = some (.str (S ch.1)) := rfl
      have at1 : atI [V.str (S ch.1), V.str (S ch.2)] 1 = some (.str (S ch.2)) := rfl
      have q7 : (q "change ").length = 7 := by decide
      have q1 : (q " ").length = 1 := by decide
      have a0 : Str.ofString "change " = S (q "change ") := lit "change " (l := q "change ") rfl
      have a1 : Str.ofString " " = S (q " ") := lit " " (l := q " ") rfl
      refine ⟨_, rfl, .inl ⟨rfl, _, Evl.sq_of h1⟩, _, rfl, c, _, _, _, rfl, rfl, Evl.st_of hc, at0, _, _, rfl, rfl, by rw [a0, SX.S_len, SX.S_len]; exact Nat.le_of_lt (small1000 (by omega)), ?_⟩
      rw [a0, SX.S_cat]
      refine ⟨_, _, rfl, rfl, by rw [a1, SX.S_len, SX.S_len, List.length_append]; exact Nat.le_of_lt (small1000 (by omega)), ?_⟩
      rw [a1, SX.S_cat]
      refine ⟨_, rfl, c, _, _, _, rfl, rfl, Evl.st_of hc, at1, _, _, rfl, rfl, by rw [SX.S_len, SX.S_len, List.length_append, List.length_append]; exact Nat.le_of_lt (small1000 (by omega)), ?_⟩
      rw [SX.S_cat]
      refine ⟨wl, _, S (lineC ch) |> V.str, rfl, rfl, h1, small1000 (by rw [txs_len, List.length_cons, List.length_map, List.length_take]; omega), Ex.mut e1 hw, ?_, _, rfl⟩
      rw [upd_same, sn, take_at hch, List.map_append]
      rfl
    rintro σ' H1 ⟨e1, h1, v4, rfl⟩
    rw [List.take_length] at h1
    refine ⟨fun σ' H' => Ex H H' ∧ H' wl = some (.lst (txs (linesOf t chs cov))) ∧ ∃ v4 v5, σ' = [some (.str (S t)), some (.ref l), some v, some (.ref wl), v4, v5], ?_, ?_⟩
    · refine ⟨_, rfl, rfl, _, rfl, ?_⟩
      cases cov with
      | none =>
        obtain rfl : v = .non := hv
        refine iteNS rfl ⟨e1, ?_, _, _, rfl⟩
        rw [h1]
        show some (HO.lst (txs (lineT t :: chs.map lineC))) = some (HO.lst (txs (lineT t :: (chs.map lineC ++ []))))
        rw [List.append_nil]
      | some cov =>
        obtain ⟨ca, rfl, hca⟩ := hv
        have many := g.many cov rfl
        have cubes := g.cubes cov rfl
        have ncw : ca ≠ wl := fun z => by rw [← z, hca] at hw; cases hw
        refine iteNF (by intro z; cases z) ?_
        have hlen : (txs (lineT t :: chs.map lineC)).length ≤ 9 := by rw [txs_len, List.length_cons, List.length_map]; omega
        refine ⟨_, rfl, .inl ⟨rfl, _, Evl.sq_of h1⟩, wl, _, _, rfl, rfl, h1, small1000 (by omega), ?_⟩
        rw [lit "cover" (l := q "cover") rfl, sn]
        have e2 := Ex.mut (o := .lst (txs (lineT t :: chs.map lineC ++ [q "cover"]))) e1 hw
        refine ⟨_, rfl, ca, rfl, ⟨_, Evl.sq_of (e2 _ _ hca)⟩, for_txs (l := cov) (fun i σ' H' => Ex H H' ∧ H' wl = some (.lst (txs (lineT t :: (chs.map lineC ++ (q "cover" :: (cov.take i).map lineP))))) ∧ ∃ v4 v5, σ' = [some (.str (S t)), some (.ref l), some (.ref ca), some (.ref wl), v4, v5]) ⟨e2, by rw [upd_same] <;> rfl, _, _, rfl⟩ (fun i σ' H' _ p => p.1 _ _ hca) ?_ ?_⟩
        · rintro i c σ' H3 hi ⟨e3, h3, v4, v5, rfl⟩
          have lc := (cubes c (List.mem_of_getElem? hi)).len
          have hi' := (List.getElem?_eq_some_iff.mp hi).1
          have q8 : (q "product ").length = 8 := by decide
          have a0 : Str.ofString "product " = S (q "product ") := lit "product " (l := q "product ") rfl
          refine ⟨_, rfl, .inl ⟨rfl, _, Evl.sq_of h3⟩, _, rfl, _, _, rfl, rfl, by rw [a0, SX.S_len, SX.S_len]; exact Nat.le_of_lt (small1000 (by omega)), ?_⟩
          rw [a0, SX.S_cat]
          refine ⟨wl, _, _, rfl, rfl, h3, small1000 (by rw [txs_len, List.length_cons, List.length_append, List.length_cons, List.length_map, List.length_map, List.length_take]; omega), Ex.mut e3 hw, ?_, _, _, rfl⟩
          rw [upd_same, sn, take_at hi, List.map_append]
          show some (HO.lst (txs (lineT t :: (chs.map lineC ++ q "cover" :: (cov.take i).map lineP) ++ [q "product " ++ c]))) = some (HO.lst (txs (lineT t :: (chs.map lineC ++ q "cover" :: ((cov.take i).map lineP ++ [c].map lineP)))))
          rw [List.cons_append, List.append_assoc]
          rfl
        · rintro σ' H3 ⟨e3, h3, v4, v5, rfl⟩
          rw [List.take_length] at h3
          exact ⟨e3, h3, _, _, rfl⟩
    · rintro σ' H2 ⟨e2, h2, v4, v5, rfl⟩
      have many := lines_many g
      rw [txs_map] at h2
      have e10 : Str.ofString "\n" = S [10] := lit "\n" (l := [10]) (by decide)
      refine ⟨⟨_, rfl⟩, _, rfl, _, wl, _, rfl, rfl, .inl (Evl.sq_of h2), ?_, ?_⟩
      · rw [SX.lens, e10, SX.S_len, List.length_map]
        refine Nat.le_trans (Nat.add_le_add_right (sum_le (linesOf t chs cov) fun x hx => by have := line_len g x hx; omega) _) ?_
        show _ + _ * 1 ≤ _
        omega
      · rw [e10, SX.join_S]
        have ej : sheet t chs cov = TL.joinL [10] (linesOf t chs cov) ++ [10] := by rw [sheet_join, join_end (lines_ne t chs cov)]
        have sl := sheet_len g
        rw [ej, List.length_append] at sl
        refine ⟨_, _, rfl, rfl, ?_, ?_⟩
        · rw [SX.S_len, SX.S_len]
          have := sizeLine_eq
          show _ + 1 ≤ _
          omega
        · rw [SX.S_cat, ← ej]
          exact k H2 e2
abbrev sIs : Stmt := top 59
def spIs (CT CD : Addr) : Sp := fun vs H Q _ => ∃ (n : Nat) (p d l : Addr) (t : L) (cs : List Addr) (chs : List (L × L)) (v c : V) (cov : Option (List L)), vs = [.ref p, .str (S t), .ref l, c] ∧ H p = some (.tup [.ref d, v]) ∧ DemAt CT CD H d t n chs ∧ CovAt H v cov ∧ H l = some (.lst (refs cs)) ∧ ChsAt H cs chs ∧ CovAt H c cov ∧ GoodSheet n t chs cov ∧
  ∀ H', Ex H H' → Q (.bl true) H'
abbrev nIs : List Str := ["_law_told", "_law_text_here", "_law_changes_here", "_law_cover_here", "_law_demand", "_law_products", "_law_cube_here"]
theorem ok_is {f g : Addr} {fd gd : FuncData} (TC : TabC K CT) (DC : DemC K CD) (F : C8.Def K mg "_law_is" sIs f fd) (b : Binds K fd ["_law_told", "_law_text_here", "_law_changes_here", "_law_cover_here"] []) (T : Blt mg)
    (sL : Spec1 K CD "__len__" g) (G : FnOk P w K mg base C8.CX0 1 g gd ["self"] (spDemLen CT CD)) (bG : Binds K gd ["self"] []) : C8.Cal P w K mg base 3 "_law_is" (spIs CT CD) [] := by
  have sc : FnScope nIs ["_law_told", "_law_text_here", "_law_changes_here", "_law_cover_here"] (C8.fnScope sIs) := C8.fnScope_by (by decide +kernel)
  refine C8.cal0 F b .nil sc (fun vs H Q E h => ?_) (fun cdv A outer s H vs Q E hr h => ?_)
  · obtain ⟨n, p, d, l, t, cs, chs, v, c, cov, rfl, _⟩ := h
    rfl
  · obtain ⟨n, p, d, l, t, cs, chs, v, c, cov, rfl, hp, hD, hv, hl, hcs, hc, g, k⟩ := h
    have hu : (A.deeper (PyProof.Rows.envOfC "_law_is" (C8.fnScope sIs) s.heap.objs.size f cdv)).units + 64 < cLine := hr.units
    refine ⟨_, pss_cons (ps_if (PW.pt (pw_or (pt_not (pt_val (pe_callB isi_tup (by rfl) T.isi (by decide +kernel) (pa_cons (pv 0) (pa_cons (pe_bltn (v := .ty "tuple") (by rfl) T.tup (by decide +kernel) rfl) pa_nil)))))
        (pw_or1 (pt_cmpR op_ne (pe_callB call_len_seq (by rfl) T.len PySem.boot_len (pa_cons (pv 0) pa_nil)) pe_int (nomark _))))) (pss_one ps_never) pss_nil)
      (pss_cons (ps_asg (pv 0) (pg_tup rfl (pgs_cons (pg_name (i := 4) sc.nd rfl (.inl rfl)) (pgs_cons (pg_name (i := 5) sc.nd rfl (.inl rfl)) pgs_nil))))
      (pss_cons (ps_if (PW.pt (pw_or (pt_cmpR op_ne (pe_fld (pe_fld (pv 4) rfl) rfl) (pv 1) (nomark _))
          (pw_or (pt_cmpR (op_neD hu) (pe_fld (pv 4) rfl) (pe_callTy call_tuple_of (by rfl) T.tup (by decide +kernel) (pa_cons (pv 2) pa_nil)) (nomark _))
          (pw_or1 (pt_cmpR op_ne (pe_callB (call_lenOwn sL G bG hr) (by rfl) T.len PySem.boot_len (pa_cons (pv 4) pa_nil)) (pe_callB call_len_seq (by rfl) T.len PySem.boot_len (pa_cons (pv 2) pa_nil)) (nomark _)))))) (pss_one ps_never) pss_nil)
      (pss_cons (ps_if (pt_cmpR op_isN (pv 3) pe_non (nomark _)) (pss_one (ps_ret (pe_cmpR op_isN (pv 5) pe_non (nomark _)))) pss_nil)
      (pss_one (ps_ret (pe_and (pe_callB isi_list (by rfl) T.isi (by decide +kernel) (pa_cons (pv 5) (pa_cons (pe_bltn (v := .ty "list") (by rfl) T.lst (by decide +kernel) rfl) pa_nil)))
        (pe_and (pe_cmpR (op_eqD hu) (pv 5) (pv 3) (nomark _))
        (pe_one (pe_callB (cr_all rfl) (by rfl) T.all (by decide +kernel) (pa_cons (pe_lc (own := [("_law_cube_here", 6)]) (g := gName 6) (tt := tYes) rfl sc.nd (pi_list (pv 5)) (blkOk_by (N := nIs) (sc := C8.fnScope sIs) (by decide +kernel))
          (fun _ _ _ _ _ => pg_name (i := 6) sc.nd rfl (.inl rfl)) (fun _ _ _ _ _ => pts_nil) (fun _ _ _ _ _ => pe_callB isi_str (by rfl) T.isi (by decide +kernel) (pa_cons (pv 6) (pa_cons (pe_bltn (v := .ty "str") (by rfl) T.str (by decide +kernel) rfl) pa_nil)))) pa_nil)))))))))), ?_⟩
    obtain ⟨dx, tb, tp, st, ol, cs', h1, ⟨dt, h2⟩, h3, h4⟩ := id hD
    have few := g.few
    refine ⟨_, rfl, p, _, rfl, hp, true, rfl, iteF ?_⟩
    refine ⟨_, rfl, p, _, rfl, .inr (.inl (.inl hp)), rfl, _, rfl, iteNS rfl ?_⟩
    refine ⟨_, rfl, p, _, rfl, .inl (.inl hp), rfl, _, _, rfl, _, _, rfl, rfl, ?_⟩
    -- the demand's parts
    refine ⟨_, rfl, d, CD, dx, _, _, rfl, h1, DC.cl, DC.table, dfs_table tb tp st ol, tb, CT, dt, _, _, rfl, h2, TC.cl, TC.text, tfs_text t n, _, rfl, rfl, _, rfl, iteNS rfl ?_⟩
    have hsh := shaped_chs (good_sgn g.good)
    refine ⟨_, rfl, d, CD, dx, _, _, rfl, h1, DC.cl, DC.changes, dfs_changes tb tp st ol, _, rfl, l, _, rfl, .inl ⟨Evl.sq_of hl, fun q0 hq => ?_⟩⟩
    have e1 := Ex.new (o := .tup (refs cs)) hq
    refine ⟨.tuple (chD chs), .tuple (chD chs), .tup (.inl (.inl (e1 _ _ h3))) (dp_chs (h4.ex e1)), .tup (.inl (.inl upd_same)) (dp_chs (hcs.ex e1)), hsh, hsh, _, rfl, ?_⟩
    rw [SeqAt.eqv_refl _ (SeqAt.canLay_of_shaped hsh)]
    refine iteF ?_
    refine ⟨_, rfl, d, dx, _, rfl, e1 _ _ h1, n, d, t, chs, rfl, hD.ex e1, fun H2 e2 => ⟨chs.length, rfl, by omega, _, rfl, l, _, rfl, .inl (Evl.sq_of (e2 _ _ (e1 _ _ hl))), rfl, _, rfl, ?_⟩⟩
    have elen : (refs cs).length = chs.length := (List.length_map ..).trans hcs.len
    refine iteNS (by rw [elen]) ?_
    have e02 := e1.trans e2
    refine ⟨_, rfl, rfl, _, rfl, ?_⟩
    cases cov with
    | none =>
      obtain rfl : v = .non := hv
      obtain rfl : c = .non := hc
      refine iteD rfl ?_
      exact ⟨_, rfl, rfl, k H2 e02⟩
    | some cov =>
      have many := g.many cov rfl
      obtain ⟨va, rfl, hva⟩ := id hv
      obtain ⟨ca, rfl, hca⟩ := id hc
      have hsh2 := cov_shaped (cov := some cov) g.cubes
      refine iteDF (by intro z; cases z) ?_
      refine ⟨_, rfl, va, _, rfl, e02 _ _ hva, true, rfl, iteT ?_⟩
      refine ⟨_, rfl, _, rfl, covD (some cov), covD (some cov), cov_dp (hv.ex e02), cov_dp (hc.ex e02), hsh2, hsh2, _, rfl, ?_⟩
      rw [SeqAt.eqv_refl _ (SeqAt.canLay_of_shaped hsh2)]
      refine iteT ?_
      refine ⟨_, rfl, va, rfl, ⟨_, Evl.sq_of (e02 _ _ hva)⟩, fun D hDn => ?_⟩
      refine lc_ex cov (walk_txs (K := K) (a := va) (l := cov)) (fun _ => some (.bl true)) hDn (by omega) (fun H3 e => e _ _ (e02 _ _ hva)) (fun i c x H3 H4 Kn Nn hc e y hk _ => ?_) (fun H3 e3 hl3 => ?_)
      · obtain ⟨rfl, c', hc', rfl⟩ := y
        exact ⟨rfl, yes_ ⟨_, rfl, _, rfl, hk _ _ rfl (Ex.refl _)⟩⟩
      · rw [fm_map] at hl3
        have eb : (cov.map fun _ => V.bl true) = (cov.map fun _ => true).map V.bl := by rw [List.map_map] <;> rfl
        rw [eb] at hl3
        refine ⟨D, _, rfl, Evl.sq_of hl3, ?_⟩
        have ea : (cov.map fun _ => true).all id = true := by
          rw [List.all_map, List.all_eq_true]
          intro _ _
          rfl
        rw [ea]
        exact k H3 (e02.trans e3)
end
end Sc

namespace Sc
open PySem L2
open Evl (Ex Ev)
theorem DemAt.kp {CT CD p b : Addr} {H H' : Hp} {a : Addr} {t : L} {n : Nat} {chs : List (L × L)} (h : DemAt CT CD H a t n chs) (k : Kp p H H') (s : SrcAt H p b) : DemAt CT CD H' a t n chs := by
  obtain ⟨dx, tb, tp, st, ol, cs, h1, ⟨dt, h2⟩, h3, h4⟩ := h
  obtain ⟨ns, i, h0, m, x, g1, _⟩ := s
  exact ⟨dx, tb, tp, st, ol, cs, k _ _ (ne_of h1 g1 (by intro z; cases z)) h1, ⟨dt, k _ _ (ne_of h2 g1 (by intro z; cases z)) h2⟩, k _ _ (ne_of h3 g1 (by intro z; cases z)) h3,
    h4.len, fun i c ch z1 z2 => k _ _ (ne_of (h4.at_ i c ch z1 z2) g1 (by intro z; cases z)) (h4.at_ i c ch z1 z2)⟩
/-- what stands while the law goes round -/
structure LawSt (CT CD p b dm cl : Addr) (t : L) (n : Nat) (cs : List Addr) (chs : List (L × L)) (H : Hp) : Prop where
  src : SrcAt H p b
  dem : DemAt CT CD H dm t n chs
  lst : H cl = some (.lst (refs cs))
  chs : ChsAt H cs chs
  ne : cl ≠ p
section
variable {CT CD p b dm cl : Addr} {t : L} {n : Nat} {cs : List Addr} {chs : List (L × L)} {H H' : Hp}
theorem LawSt.ex (h : LawSt CT CD p b dm cl t n cs chs H) (e : Ex H H') : LawSt CT CD p b dm cl t n cs chs H' := ⟨h.src.ex e, h.dem.ex e, e _ _ h.lst, h.chs.ex e, h.ne⟩
theorem LawSt.kp (h : LawSt CT CD p b dm cl t n cs chs H) (k : Kp p H H') (s : SrcAt H' p b) : LawSt CT CD p b dm cl t n cs chs H' := by
  obtain ⟨ns, i, h0, m, x, g1, _⟩ := id h.src
  exact ⟨s, h.dem.kp k h.src, k _ _ h.ne h.lst, ⟨h.chs.len, fun i c ch z1 z2 => k _ _ (ne_of (h.chs.at_ i c ch z1 z2) g1 (by intro z; cases z)) (h.chs.at_ i c ch z1 z2)⟩, h.ne⟩
end
section
variable {P : Program} {w : World} {K : PySem.W.Frag} {mg : Str → Option Value} {base : Heap} {CT CD : Addr}
abbrev sLaw : Stmt := top 60
def spLaw (K : PySem.W.Frag) : Sp := fun vs H Q _ => ∃ (a : Addr) (ns : List Int), vs = [.ref a] ∧ SqL K H a (ns.map V.int) ∧ ns.length ≤ 63 ∧ ∀ H', Q (.bl true) H'
abbrev nLaw : List Str := ["_law_script", "_law_source_here", "_law_n", "_law_text_here", "_law_changes_here", "_law_demand", "_law_k", "_law_cover_here", "_law_sheet_here", "_law_told", "_law_back"]
abbrev slL (a p : Addr) (n : Nat) (t : L) (cl dm : Addr) (v6 v7 v8 v9 v10 : Option V) : L2.St := [some (.ref a), some (.ref p), some (.int ((n : Nat) : Int)), some (.str (S t)), some (.ref cl), some (.ref dm), v6, v7, v8, v9, v10]
theorem ok_law {f g : Addr} {fd gd : FuncData} (F : C8.Def K mg "law" sLaw f fd) (T : Blt mg)
    (cSrc : C8.Cal P w K mg base 1 "_law_source" (spSource K) []) (cSz : C8.Cal P w K mg base 2 "_law_size" spSize []) (cTx : C8.Cal P w K mg base 3 "_law_text" spText []) (cKs : C8.Cal P w K mg base 3 "_law_kinds" spKinds []) (cCh : C8.Cal P w K mg base 2 "_law_changes" spChanges [])
    (mT : C8.Mak P w K mg base 1 "Table" CT (spTabInit CT) []) (mD : C8.Mak P w K mg base 8 "Demand" CD (spDemInit CT CD) []) (cCv : C8.Cal P w K mg base 3 "_law_cover" spCover []) (cSh : C8.Cal P w K mg base 1 "_law_sheet" spSheet [])
    (cRd : C8.Cal P w K mg base 10 "read_sheet" (spRead CT CD) []) (cIs : C8.Cal P w K mg base 3 "_law_is" (spIs CT CD) []) (cW : C8.Cal P w K mg base 4 "write_sheet" (spWrite CT CD) [])
    (sE : Spec1 K CD "__eq__" g) (nf : PySem.W.notFirst K CD (.ref CD) = true) (G : FnOk P w K mg base C8.CX0 2 g gd ["self", "other"] (spDemEq CT CD)) (bG : Binds K gd ["self", "other"] []) : FnOk P w K mg base C8.CX0 11 f fd ["_law_script"] (spLaw K) := by
  have sc : FnScope nLaw ["_law_script"] (C8.fnScope sLaw) := C8.fnScope_by (by decide +kernel)
  refine C8.fn0 F.fn sc (fun vs H Q E h => ?_) (fun cdv A outer s H vs Q E hr h => ?_)
  · obtain ⟨a, ns, rfl, _⟩ := h
    rfl
  · obtain ⟨a, ns, rfl, hs, h63, k⟩ := h
    have hu : (A.deeper (PyProof.Rows.envOfC "law" (C8.fnScope sLaw) s.heap.objs.size f cdv)).units + 64 < cLine := hr.units
    refine ⟨_, pss_cons (ps_set (i := 1) sc.nd rfl (.inl rfl) (C8.pe_c cSrc hr (by decide) (by rfl) (pa_cons (pv 0) pa_nil)))
      (pss_cons (ps_set (i := 2) sc.nd rfl (.inl rfl) (C8.pe_c cSz hr (by decide) (by rfl) (pa_cons (pv 1) pa_nil)))
      (pss_cons (ps_set (i := 3) sc.nd rfl (.inl rfl) (C8.pe_c cTx hr (by decide) (by rfl) (pa_cons (pv 1) (pa_cons (pv 2) pa_nil))))
      (pss_cons (ps_set (i := 4) sc.nd rfl (.inl rfl) (C8.pe_c cCh hr (by decide) (by rfl) (pa_cons (pv 1) (pa_cons (C8.pe_c cKs hr (by decide) (by rfl) (pa_cons (pv 3) (pa_cons (pv 2) pa_nil))) (pa_cons pe_int pa_nil)))))
      (pss_cons (ps_set (i := 5) sc.nd rfl (.inl rfl) (C8.pe_mk mD hr (by decide) (by rfl) (pa_cons (C8.pe_mk mT hr (by decide) (by rfl) (pa_cons (pv 3) pa_nil)) (pa_cons (pe_callTy call_list_of (by rfl) T.lst (by decide +kernel) (pa_cons (pv 4) pa_nil)) pa_nil))))
      (pss_cons (ps_for PassesOwn.never rfl (pi_range1 (by rfl) T.rng (pa_cons pe_int pa_nil)) (pg_name (i := 6) sc.nd rfl (.inl rfl))
        (pss_cons (ps_set (i := 7) sc.nd rfl (.inl rfl) (C8.pe_c cCv hr (by decide) (by rfl) (pa_cons (pv 1) (pa_cons (pv 2) pa_nil))))
        (pss_cons (ps_set (i := 8) sc.nd rfl (.inl rfl) (C8.pe_c cSh hr (by decide) (by rfl) (pa_cons (pv 3) (pa_cons (pv 4) (pa_cons (pv 7) pa_nil)))))
        (pss_cons (ps_set (i := 9) sc.nd rfl (.inl rfl) (C8.pe_c cRd hr (by decide) (by rfl) (pa_cons (pv 8) pa_nil)))
        (pss_cons (ps_if (pt_not (pt_val (C8.pe_c cIs hr (by decide) (by rfl) (pa_cons (pv 9) (pa_cons (pv 3) (pa_cons (pv 4) (pa_cons (pv 7) pa_nil))))))) (pss_one ps_never) pss_nil)
        (pss_cons (ps_if (PW.pt (pw_or (pt_not (pt_cmpR (op_eqOwn sE nf G bG (hr.mono (by decide))) (pe_ix ix_tup (pv 9) pe_int (fun _ _ => rfl)) (pv 5) (nomark _)))
            (pw_or1 (pt_cmpR op_ne (C8.pe_c cW hr (by decide) (by rfl) (pa_cons (pe_ix ix_tup (pv 9) pe_int (fun _ _ => rfl)) (pa_cons (pe_ix ix_tup (pv 9) pe_int (fun _ _ => rfl)) pa_nil))) (pv 8) (nomark _))))) (pss_one ps_never) pss_nil)
        (pss_cons (ps_set (i := 10) sc.nd rfl (.inl rfl) (C8.pe_c cRd hr (by decide) (by rfl) (pa_cons (C8.pe_c cW hr (by decide) (by rfl) (pa_cons (pv 5) (pa_cons (pv 7) pa_nil))) pa_nil)))
        (pss_cons (ps_if (PW.pt (pw_or (pt_not (pt_cmpR (op_eqOwn sE nf G bG (hr.mono (by decide))) (pe_ix ix_tup (pv 10) pe_int (fun _ _ => rfl)) (pv 5) (nomark _)))
            (pw_or1 (pt_cmpR (op_neD hu) (pe_ix ix_tup (pv 10) pe_int (fun _ _ => rfl)) (pv 7) (nomark _))))) (pss_one ps_never) pss_nil)
        (C8.pss_cut (ps_if (pt_cmpR op_notN (pe_ix ix_tup (pv 9) pe_int (fun _ _ => rfl)) pe_non (nomark _))
          (pss_cons (ps_expr (pe_bm PySem.F.plainAttrs_list PySem.F.slot_list_append PySem.F.type_list_append mt_append (pe_ix ix_tup (pv 9) pe_int (fun _ _ => rfl)) (pa_cons pe_str pa_nil)))
          (pss_one (ps_expr (pe_bm0 PySem.F.plainAttrs_list PySem.F.slot_list_reverse PySem.F.type_list_reverse mt_reverse (pe_ix ix_tup (pv 9) pe_int (fun _ _ => rfl)))))) pss_nil)
        (pss_one (ps_if (PW.pt (pw_or (pt_not (pt_val (C8.pe_c cIs hr (by decide) (by rfl) (pa_cons (C8.pe_c cRd hr (by decide) (by rfl) (pa_cons (pv 8) pa_nil)) (pa_cons (pv 3) (pa_cons (pv 4) (pa_cons (pv 7) pa_nil)))))))
            (pw_or1 (PW.pt (pw_and (pt_cmpR op_notN (pv 7) pe_non (nomark _)) (pw_and1 (pt_cmpR (op_neD hu) (pe_ix ix_tup (pv 10) pe_int (fun _ _ => rfl)) (pv 7) (nomark _)))))))) (pss_one ps_never) pss_nil)))))))))))
      (pss_one (ps_ret pe_bl))))))), ?_⟩
    refine ⟨_, rfl, a, ns, rfl, hs, h63, fun H1 p b0 e1 hp s1 => ?_⟩
    refine ⟨_, rfl, p, b0, rfl, s1, fun H2 n k2 s2 n1 n4 => ?_⟩
    refine ⟨_, rfl, _, rfl, p, b0, n, rfl, s2, n1, n4, fun H3 t k3 s3 ht => ?_⟩
    refine ⟨_, rfl, _, rfl, _, rfl, n, t, rfl, ht, fun H4 kl as e4 hkl R4 => ⟨n, t, p, b0, kl, as, rfl, s3.ex e4, R4, n4, fun H5 cl cs k5 s5 hcl G5 h8 => ?_⟩⟩
    have ncp := ((s3.ex e4).ne hcl).1
    obtain ⟨chs, hchs, good⟩ := good_chs G5.chg
    have few : chs.length ≤ 8 := by have := hchs.len; omega
    -- demand
    refine ⟨_, rfl, fun x dx hx hd hne => ⟨n, x, dx, t, rfl, upd_same, ht, fun H6 kH6 hT6 => ⟨rfl, ?_⟩⟩⟩
    have e6 := made_ex hx hd kH6
    refine ⟨_, rfl, cl, _, rfl, .inl (Evl.sq_of (e6 _ _ G5.at_)), fun l2 hl2 => ?_⟩
    have e7 := Ex.new (o := .lst (refs cs)) hl2
    refine fun dm dd hd1 hd2 hdn => ?_
    have em := made_ex (H' := upd (upd (upd H6 l2 (.lst (refs cs))) dd (.own dm)) dm (.ins CD dd [])) hd1 hd2 (fun _ _ z _ => z)
    have e67 := (e6.trans e7).trans em
    refine ⟨n, dm, dd, x, l2, t, cs, chs, rfl, upd_same, hT6.ex (e7.trans em), ht, em _ _ upd_same, hchs.ex e67, few, good, fun H8 kH8 hD8 => ⟨rfl, ?_⟩⟩
    have e58 := (e6.trans e7).trans (made_ex hd1 hd2 kH8)
    have st8 : LawSt CT CD p b0 dm cl t n cs chs H8 := ⟨s5.ex e58, hD8, e58 _ _ G5.at_, hchs.ex e58, ncp⟩
    clear hkl R4 hcl G5 hx hd hne kH6 hT6 e6 hl2 e7 hd1 hd2 hdn em e67 kH8 hD8 e58
    refine ⟨3, rfl, by decide, by decide, ?_⟩
    refine for_it walk_range (fun i σ' H' => LawSt CT CD p b0 dm cl t n cs chs H' ∧ ∃ v6 v7 v8 v9 v10, σ' = slL a p n t cl dm v6 v7 v8 v9 v10) ⟨st8, _, _, _, _, _, rfl⟩ (fun _ _ _ _ _ => trivial) ?_ (fun σ' H' _ => k H')
    rintro i x σ' H6 H6' hi ⟨st6, v6, v7, v8, v9, v10, rfl⟩ ⟨rfl, rfl⟩
    refine ⟨_, rfl, _, rfl, p, b0, n, rfl, st6.src, n4, fun H7 c cov k7 s7 hcv many cubes ncp => ?_⟩
    have st7 := st6.kp k7 s7
    have g : GoodSheet n t chs cov := ⟨ht, few, good, many, cubes⟩
    have hsh := cov_shaped (cov := cov) cubes
    have at0 : ∀ {d : Addr} {v : V}, atI [V.ref d, v] 0 = some (.ref d) := rfl
    have at1 : ∀ {d : Addr} {v : V}, atI [V.ref d, v] 1 = some v := rfl
    refine ⟨_, rfl, _, rfl, _, rfl, n, t, cl, cs, chs, c, cov, rfl, st7.lst, st7.chs, hcv, g, fun H8 e8 => ?_⟩
    refine ⟨_, rfl, n, t, chs, cov, rfl, g, fun H9 tp d v e9 htp hP hD hV fresh => ?_⟩
    have e79 := e8.trans e9
    refine ⟨_, rfl, _, rfl, _, rfl, _, rfl, n, tp, d, cl, t, cs, chs, v, c, cov, rfl, hP, hD, hV, e79 _ _ st7.lst, st7.chs.ex e79, hcv.ex e79, g, fun H10 e10 => ⟨true, rfl, iteF ?_⟩⟩
    have hD10 := hD.ex e10
    have hM10 := st7.dem.ex (e79.trans e10)
    obtain ⟨dx1, _, _, _, _, _, hd1, _⟩ := id hD10
    obtain ⟨dx2, _, _, _, _, _, hm1, _⟩ := id hM10
    refine ⟨_, rfl, tp, _, _, _, rfl, rfl, Evl.st_of (e10 _ _ hP), at0, _, rfl, d, dx1, _, dm, dx2, _, rfl, rfl, hd1, hm1, n, d, dm, t, chs, rfl, hD10, hM10, good, fun H11 e11 => ⟨true, rfl, iteF ?_⟩⟩
    have e911 := e10.trans e11
    refine ⟨_, rfl, tp, _, _, _, rfl, rfl, Evl.st_of (e911 _ _ hP), at0, _, rfl, tp, _, _, _, rfl, rfl, Evl.st_of (e911 _ _ hP), at1, n, d, v, t, chs, cov, rfl, hD.ex e911, hV.ex e911, g, fun H12 e12 => ⟨_, rfl, rfl, _, rfl, iteNS rfl ?_⟩⟩
    have e912 := e911.trans e12
    have e712 := e79.trans e912
    -- back
    refine ⟨_, rfl, _, rfl, n, dm, c, t, chs, cov, rfl, st7.dem.ex e712, hcv.ex e712, g, fun H13 e13 => ⟨n, t, chs, cov, rfl, g, fun H14 bp d2 v2 e14 hbp hP2 hD2 hV2 fresh2 => ?_⟩⟩
    have e914 := (e912.trans e13).trans e14
    have hM14 := st7.dem.ex (e79.trans e914)
    obtain ⟨dx3, _, _, _, _, _, hd3, _⟩ := id hD2
    obtain ⟨dx4, _, _, _, _, _, hm4, _⟩ := id hM14
    refine ⟨_, rfl, bp, _, _, _, rfl, rfl, Evl.st_of hP2, at0, _, rfl, d2, dx3, _, dm, dx4, _, rfl, rfl, hd3, hm4, n, d2, dm, t, chs, rfl, hD2, hM14, good, fun H15 e15 => ⟨true, rfl, iteF ?_⟩⟩
    have e915 := e914.trans e15
    have e715 := e79.trans e915
    have hV15 := hV2.ex e15
    have hc15 := hcv.ex e715
    refine ⟨_, rfl, bp, _, _, _, rfl, rfl, Evl.st_of (e15 _ _ hP2), at1, _, rfl, covD cov, covD cov, cov_dp hV15, cov_dp hc15, hsh, hsh, _, rfl, ?_⟩
    rw [SeqAt.eqv_refl _ (SeqAt.canLay_of_shaped hsh)]
    refine iteF ?_
    -- the told cover is changed
    refine ⟨fun σ' H' => σ' = slL a p n t cl dm (some (.int (0 + ((i : Nat) : Int)))) (some c) (some (.str (S (sheet t chs cov)))) (some (.ref tp)) (some (.ref bp)) ∧ LawSt CT CD p b0 dm cl t n cs chs H' ∧ CovAt H' c cov ∧ H' bp = some (.tup [.ref d2, v2]) ∧ CovAt H' v2 cov, ?_, ?_⟩
    · refine ⟨_, rfl, tp, _, _, _, rfl, rfl, Evl.st_of (e915 _ _ hP), at1, rfl, _, rfl, ?_⟩
      by_cases hvn : v = .non
      · exact iteNS hvn ⟨rfl, st7.ex e715, hc15, e15 _ _ hP2, hV15⟩
      · refine iteNF hvn ?_
        obtain ⟨ca, hva, tl, hca⟩ : ∃ ca, v = .ref ca ∧ ∃ tl : List L, H9 ca = some (.lst (txs tl)) ∧ tl.length ≤ 40 := by
          cases hq : cov with
          | none =>
            rw [hq] at hV
            exact absurd hV hvn
          | some tl =>
            rw [hq] at hV
            obtain ⟨ca, h1, h2⟩ := hV
            exact ⟨ca, h1, tl, h2, many tl hq⟩
        obtain ⟨hca, h40⟩ := hca
        subst hva
        have hca8 : H8 ca = none := fresh ca rfl
        have hca7 : H7 ca = none := Evl.fresh_back e8 hca8
        have hca15 := e915 _ _ hca
        refine ⟨_, rfl, tp, _, _, _, rfl, rfl, Evl.st_of (e915 _ _ hP), at1, .inl ⟨rfl, _, Evl.sq_of hca15⟩, ca, _, _, rfl, rfl, hca15, small1000 (by rw [txs_len]; omega), ?_⟩
        have ntp : ∀ {o : HO}, tp ≠ ca := fun {o} => ne_of (e915 _ _ hP) hca15 (by intro z; cases z)
        refine ⟨_, rfl, tp, [.ref d, .ref ca], _, .ref ca, rfl, rfl, Evl.st_of (by rw [upd_ne (ntp (o := .lst []))]; exact e915 _ _ hP), rfl, .inl ⟨rfl, _, Evl.sq_of upd_same⟩, ca, _, rfl, rfl, upd_same, rfl, ?_⟩
        have em := Ex.mut (Ex.mut e715 hca7 (o := HO.lst (txs tl ++ [V.str (Str.ofString "0")]))) hca7 (o := HO.lst (txs tl ++ [V.str (Str.ofString "0")]).reverse)
        have nbp : bp ≠ ca := ne_of (e15 _ _ hP2) hca15 (by intro z; cases z)
        refine ⟨st7.ex em, hcv.ex em, by rw [upd_ne nbp, upd_ne nbp]; exact e15 _ _ hP2, ?_⟩
        cases cov with
        | none => exact hV15
        | some tl2 =>
          obtain ⟨b2, rfl, hb2⟩ := hV15
          have nb2 : b2 ≠ ca := fun z => by
            have h1 := fresh2 b2 rfl
            have h2 := ((e912.trans e13) _ _ hca)
            rw [z, h2] at h1
            cases h1
          exact ⟨b2, rfl, by rw [upd_ne nb2, upd_ne nb2]; exact hb2⟩
    rintro σ' H16 ⟨rfl, st16, hc16, hP16, hV16⟩
    refine ⟨_, rfl, n, t, chs, cov, rfl, g, fun H17 tp3 d3 v3 e17 h3 P3 D3 V3 f3 => ⟨_, rfl, _, rfl, _, rfl, n, tp3, d3, cl, t, cs, chs, v3, c, cov, rfl, P3, D3, V3, e17 _ _ st16.lst, st16.chs.ex e17, hc16.ex e17, g, fun H18 e18 => ⟨true, rfl, iteF ?_⟩⟩⟩
    have e1618 := e17.trans e18
    have fin : LawSt CT CD p b0 dm cl t n cs chs H18 := st16.ex e1618
    refine ⟨_, rfl, rfl, _, rfl, ite2 (fun _ => ?_) (fun _ => iteF ⟨fin, _, _, _, _, _, rfl⟩)⟩
    refine ⟨_, rfl, bp, _, _, _, rfl, rfl, Evl.st_of (e1618 _ _ hP16), at1, _, rfl, covD cov, covD cov, cov_dp (hV16.ex e1618), cov_dp (hc16.ex e1618), hsh, hsh, _, rfl, ?_⟩
    rw [SeqAt.eqv_refl _ (SeqAt.canLay_of_shaped hsh)]
    exact iteF ⟨fin, _, _, _, _, _, rfl⟩
end
end Sc

namespace Sc
open PySem L2
abbrev HB (x qual : Str) (st : Stmt) (ps : List Str) : Prop := ∀ (kV doc pm : Value) (an : Option Addr) (cdv ct : Value) (us : List Value), us.length = ps.length → bindArgs (PySem.W.fnOf x qual (C8.fnArgs st) (C8.fnBody st) (C8.fnScope st) .none kV doc pm an cdv ct) ⟨us, []⟩ = pure (ps.zip us)
/-- .. with one default, all parameters given -/
abbrev HB1 (x qual : Str) (st : Stmt) (ps : List Str) : Prop := ∀ (T : Addr) (kV doc pm : Value) (an : Option Addr) (cdv ct : Value) (us its : List Value), us.length = ps.length → its.length = 1 →
  ∃ k, bindArgs (PySem.W.fnOf x qual (C8.fnArgs st) (C8.fnBody st) (C8.fnScope st) (.ref T) kV doc pm an cdv ct) ⟨us, []⟩ = PySem.seqItems? (.ref T) >>= k ∧ k (some its.toArray) = pure (ps.zip us)
structure DefX (K : PySem.W.Frag) (mg : Str → Option Value) (x : Str) (st : Stmt) (ps : List Str) : Prop where
  ex : ∃ (f : Addr) (fd : FuncData), C8.Def K mg x st f fd ∧ Binds K fd ps []
structure DefL (K : PySem.W.Frag) (mg : Str → Option Value) (st : Stmt) : Prop where
  ex : ∃ (f : Addr) (fd : FuncData), C8.Def K mg "law" st f fd ∧ ∀ (s : Shared) (u : Value), BindsTo s fd ⟨[u], []⟩ [("_law_script", u)]
structure MethX (K : PySem.W.Frag) (C : Addr) (m qual : Str) (st : Stmt) (ps : List Str) : Prop where
  ex : ∃ (f : Addr) (fd : FuncData), Meth K C m f ∧ C8.Fun K m qual st f fd ∧ Binds K fd ps []
structure MkX (K : PySem.W.Frag) (C : Addr) (qual : Str) (st : Stmt) (ps : List Str) : Prop where
  ex : ∃ (f : Addr) (fd : FuncData), Mk K C f ∧ C8.Fun K "__init__" qual st f fd ∧ Binds K fd ps []
section
variable {A : Prop} {K : PySem.W.Frag} {h : Heap} {mg : Str → Option Value} {f C : Addr} {oc kV doc pm cdv ct : Value} {od an : Option Addr} {osl : Array (Option Value)}
theorem kdef (X : K.In h) (G : h.Ns mainGlobals mg) (x : Str) (st : Stmt) (ps : List Str) (hb : HB x x st ps) (a : PySem.W.nsIn K mainGlobals x = some (some (.ref f)))
    (l : K.lookup f = some ⟨oc, od, .func (PySem.W.fnOf x x (C8.fnArgs st) (C8.fnBody st) (C8.fnScope st) .none kV doc pm an cdv ct), osl⟩) (c : PySem.W.codeIn K cdv x = true) (k : PySem.W.keepIn K (.ref f) = true) (q : DefX K mg x st ps → A) : A :=
  q ⟨f, _, ⟨⟨oc, od, .none, kV, doc, pm, an, cdv, ct, osl, rfl, l, c⟩, PySem.W.mg_of X G a, k⟩, C8.Fun.binds (x := x) (qual := x) (st := st) ⟨oc, od, .none, kV, doc, pm, an, cdv, ct, osl, rfl, l, c⟩ rfl hb⟩
theorem kmeth (X : K.In h) {y : Str} (hC : mg y = some (.ref C)) (m qual : Str) (st : Stmt) (ps : List Str) (hb : HB m qual st ps) (a : PySem.W.findIn K (.ref C) m = some (some (.ref f))) (i : PySem.W.isFn K (.ref f) = true)
    (l : K.lookup f = some ⟨oc, od, .func (PySem.W.fnOf m qual (C8.fnArgs st) (C8.fnBody st) (C8.fnScope st) .none kV doc pm an cdv ct), osl⟩) (c : PySem.W.codeIn K cdv qual = true) (k : PySem.W.keepIn K (.ref f) = true) (q : MethX K C m qual st ps → A) : A :=
  q ⟨f, _, ⟨a, i, k⟩, ⟨oc, od, .none, kV, doc, pm, an, cdv, ct, osl, rfl, l, c⟩, C8.Fun.binds (x := m) (qual := qual) (st := st) ⟨oc, od, .none, kV, doc, pm, an, cdv, ct, osl, rfl, l, c⟩ rfl hb⟩
theorem kinit (X : K.In h) {y : Str} (hC : mg y = some (.ref C)) (qual : Str) (st : Stmt) (ps : List Str) (hb : HB "__init__" qual st ps) (mk : PySem.W.makesIn K C = true) (a : PySem.W.findIn K (.ref C) "__init__" = some (some (.ref f))) (i : PySem.W.isFn K (.ref f) = true) (kc : PySem.W.keepIn K (.ref C) = true)
    (l : K.lookup f = some ⟨oc, od, .func (PySem.W.fnOf "__init__" qual (C8.fnArgs st) (C8.fnBody st) (C8.fnScope st) .none kV doc pm an cdv ct), osl⟩) (c : PySem.W.codeIn K cdv qual = true) (q : MkX K C qual st ps → A) : A :=
  q ⟨f, _, ⟨mk, a, i, kc⟩, ⟨oc, od, .none, kV, doc, pm, an, cdv, ct, osl, rfl, l, c⟩, C8.Fun.binds (x := "__init__") (qual := qual) (st := st) ⟨oc, od, .none, kV, doc, pm, an, cdv, ct, osl, rfl, l, c⟩ rfl hb⟩
/-- .. with one default -/
theorem binds_1 {x qual : Str} {st : Stmt} {ps : List Str} {T : Addr} {to : Obj} {u : Value} {n : Nat} (hb : HB1 x qual st ps) (lT : K.lookup T = some to) (oT : to.data = .seq #[u] n) : Binds K (PySem.W.fnOf x qual (C8.fnArgs st) (C8.fnBody st) (C8.fnScope st) (.ref T) kV doc pm an cdv ct) ps [] := by
  intro s us X hlen
  have hu : us.length = ps.length := by rw [List.append_nil] at hlen; exact hlen
  obtain ⟨k, e1, e2⟩ := hb T kV doc pm an cdv ct us [u] hu rfl
  rw [List.append_nil]
  refine BindsTo.of_looks fun M => ?_
  rw [e1]
  exact looks_items X lT oT (.of_pure e2)
theorem kdef1 (X : K.In h) (G : h.Ns mainGlobals mg) (x : Str) (st : Stmt) (ps : List Str) (hb : HB1 x x st ps) {T : Addr} {tc : Value} {td : Option Addr} {u : Value} {n : Nat} {tsl : Array (Option Value)} (a : PySem.W.nsIn K mainGlobals x = some (some (.ref f)))
    (l : K.lookup f = some ⟨oc, od, .func (PySem.W.fnOf x x (C8.fnArgs st) (C8.fnBody st) (C8.fnScope st) (.ref T) kV doc pm an cdv ct), osl⟩) (lT : K.lookup T = some ⟨tc, td, .seq #[u] n, tsl⟩) (c : PySem.W.codeIn K cdv x = true) (k : PySem.W.keepIn K (.ref f) = true) (q : DefX K mg x st ps → A) : A :=
  q ⟨f, _, ⟨⟨oc, od, .ref T, kV, doc, pm, an, cdv, ct, osl, rfl, l, c⟩, PySem.W.mg_of X G a, k⟩, binds_1 hb lT rfl⟩
theorem kinit1 (X : K.In h) {y : Str} (hC : mg y = some (.ref C)) (qual : Str) (st : Stmt) (ps : List Str) (hb : HB1 "__init__" qual st ps) {T : Addr} {tc : Value} {td : Option Addr} {u : Value} {n : Nat} {tsl : Array (Option Value)} (mk : PySem.W.makesIn K C = true) (a : PySem.W.findIn K (.ref C) "__init__" = some (some (.ref f))) (i : PySem.W.isFn K (.ref f) = true) (kc : PySem.W.keepIn K (.ref C) = true)
    (l : K.lookup f = some ⟨oc, od, .func (PySem.W.fnOf "__init__" qual (C8.fnArgs st) (C8.fnBody st) (C8.fnScope st) (.ref T) kV doc pm an cdv ct), osl⟩) (lT : K.lookup T = some ⟨tc, td, .seq #[u] n, tsl⟩) (c : PySem.W.codeIn K cdv qual = true) (q : MkX K C qual st ps → A) : A :=
  q ⟨f, _, ⟨mk, a, i, kc⟩, ⟨oc, od, .ref T, kV, doc, pm, an, cdv, ct, osl, rfl, l, c⟩, binds_1 hb lT rfl⟩
theorem kcl (X : K.In h) {y : Str} (hC : mg y = some (.ref C)) (pg : PySem.W.plainGet K C Str.empty = true) (hd : PySem.W.hasDictIn K C = true) (po : PySem.W.plainOver K C = true) (sa : PySem.W.findIn K (.ref C) "__setattr__" = some (some (.builtin "object.__setattr__"))) (q : Cls K C → A) : A := q ⟨pg, hd, po, sa⟩
theorem kins (X : K.In h) {y : Str} (hC : mg y = some (.ref C)) (c : Cls K C) (ha : PySem.W.findIn K (.ref C) "__class__" = some (some (.builtin "object.__class__"))) (hn : PySem.W.specialIn K (.builtin "object.__class__") "__get__" = some (some (.builtin "getset_descriptor.__get__")))
    (htk : PySem.W.takesIn K (.builtin "object.__class__") = some true) (hm : PySem.W.mroIn K C (.type "object") = some true) (nf : PySem.W.notFirst K C (.ref C) = true) (q : C8.InsC K C → PySem.W.notFirst K C (.ref C) = true → A) : A := q ⟨c, ha, hn, htk, hm, if_pos (beq_self_eq_true _)⟩ nf
theorem kno (X : K.In h) {y : Str} (hC : mg y = some (.ref C)) (m : Str) (a : PySem.W.findIn K (.ref C) m = some none) (q : NoAttr K C m → A) : A := q a
theorem kref (X : K.In h) (G : h.Ns mainGlobals mg) (x : Str) (a : PySem.W.nsIn K mainGlobals x = some (some (.ref C))) (q : mg x = some (.ref C) → A) : A := q (PySem.W.mg_of X G a)
theorem kint {t : Tok} (X : K.In h) (G : h.Ns mainGlobals mg) (x : Str) (n : Int) (a : PySem.W.nsIn K mainGlobals x = some (some (.int n t))) (q : (∃ t, mg x = some (.int n t)) → A) : A := q ⟨t, PySem.W.mg_of X G a⟩
theorem ksz {a1 a2 a3 a4 b1 b2 b3 b4 : Tok} {n : Nat} (X : K.In h) {y : Str} (hC : mg y = some (.ref C)) (l : K.lookup C = some ⟨.type "dict", none, .dict #[⟨2, .int 2 a1, .int 1 b1⟩, ⟨4, .int 4 a2, .int 2 b2⟩, ⟨8, .int 8 a3, .int 3 b3⟩, ⟨16, .int 16 a4, .int 4 b4⟩] n, #[]⟩)
    (ne : (C == sysModules) = false) (q : SizesAt K C → A) : A := q ⟨⟨a1, a2, a3, a4, b1, b2, b3, b4, n, l⟩, ne⟩
theorem kblt (X : K.In h) (G : h.Ns mainGlobals mg) (z_isi : PySem.W.nsIn K mainGlobals "isinstance" = some none) (z_str : PySem.W.nsIn K mainGlobals "str" = some none) (z_len : PySem.W.nsIn K mainGlobals "len" = some none) (z_tup : PySem.W.nsIn K mainGlobals "tuple" = some none) (z_lst : PySem.W.nsIn K mainGlobals "list" = some none) (z_int : PySem.W.nsIn K mainGlobals "int" = some none) (z_enu : PySem.W.nsIn K mainGlobals "enumerate" = some none) (z_rng : PySem.W.nsIn K mainGlobals "range" = some none) (z_any : PySem.W.nsIn K mainGlobals "any" = some none) (z_all : PySem.W.nsIn K mainGlobals "all" = some none) (q : Blt mg → A) : A :=
  q ⟨PySem.W.mg_none_of X G z_isi, PySem.W.mg_none_of X G z_str, PySem.W.mg_none_of X G z_len, PySem.W.mg_none_of X G z_tup, PySem.W.mg_none_of X G z_lst, PySem.W.mg_none_of X G z_int, PySem.W.mg_none_of X G z_enu, PySem.W.mg_none_of X G z_rng, PySem.W.mg_none_of X G z_any, PySem.W.mg_none_of X G z_all⟩
theorem klaw (X : K.In h) (G : h.Ns mainGlobals mg) (st : Stmt) (hb : HB "law" "law" st ["_law_script"]) (a : PySem.W.nsIn K mainGlobals "law" = some (some (.ref f)))
    (l : K.lookup f = some ⟨oc, od, .func (PySem.W.fnOf "law" "law" (C8.fnArgs st) (C8.fnBody st) (C8.fnScope st) .none kV doc pm an cdv ct), osl⟩) (c : PySem.W.codeIn K cdv "law" = true) (k : PySem.W.keepIn K (.ref f) = true) (q : DefL K mg st → A) : A :=
  q ⟨f, _, ⟨⟨oc, od, .none, kV, doc, pm, an, cdv, ct, osl, rfl, l, c⟩, PySem.W.mg_of X G a, k⟩, fun _ u => .of_eq (hb kV doc pm an cdv ct [u] rfl)⟩
end

theorem hb10 : HB "signs_fit" "signs_fit" sSignsFit ["thing", "n", "signs"] := fun _ _ _ _ _ _ us hl => match us, hl with | [_, _, _], _ => rfl
theorem hb11 : HB "is_point" "is_point" sIsPoint ["thing", "n"] := fun _ _ _ _ _ _ us hl => match us, hl with | [_, _], _ => rfl
theorem hb12 : HB "is_cube" "is_cube" sIsCube ["thing", "n"] := fun _ _ _ _ _ _ us hl => match us, hl with | [_, _], _ => rfl
theorem hb13 : HB "some_size" "some_size" sSomeSize ["thing"] := fun _ _ _ _ _ _ us hl => match us, hl with | [_], _ => rfl
theorem hb15 : HB "joined" "joined" sJoined ["c", "d"] := fun _ _ _ _ _ _ us hl => match us, hl with | [_, _], _ => rfl
theorem hb16 : HB "filled" "filled" sFilled ["cube", "signs"] := fun _ _ _ _ _ _ us hl => match us, hl with | [_, _], _ => rfl
theorem hb18 : HB "is_change" "is_change" sIsChange ["thing", "n"] := fun _ _ _ _ _ _ us hl => match us, hl with | [_, _], _ => rfl
theorem hb19 : HB "check_change" "check_change" sCheckChange ["change", "n"] := fun _ _ _ _ _ _ us hl => match us, hl with | [_, _], _ => rfl
theorem hb20 : HB "size_of_change" "size_of_change" sSizeOfChange ["change"] := fun _ _ _ _ _ _ us hl => match us, hl with | [_], _ => rfl
theorem hb21 : HB "change_cube" "change_cube" sChangeCube ["change"] := fun _ _ _ _ _ _ us hl => match us, hl with | [_], _ => rfl
theorem hb22 : HB "uneven_way" "uneven_way" sUneven ["table", "change"] := fun _ _ _ _ _ _ us hl => match us, hl with | [_, _], _ => rfl
theorem hb23 : HB "nature" "nature" sNature ["table", "change"] := fun _ _ _ _ _ _ us hl => match us, hl with | [_, _], _ => rfl
theorem hb24 : HB "is_plain" "is_plain" sIsPlain ["table", "change"] := fun _ _ _ _ _ _ us hl => match us, hl with | [_, _], _ => rfl
theorem hb25 : HB "turning" "turning" sTurning ["table", "change"] := fun _ _ _ _ _ _ us hl => match us, hl with | [_, _], _ => rfl
theorem hb28 : HB "check_cover" "check_cover" sCheckCover ["cover", "n"] := fun _ _ _ _ _ _ us hl => match us, hl with | [_, _], _ => rfl
theorem hb31 : HB "check_changes" "check_changes" sCheckChanges ["table", "changes"] := fun _ _ _ _ _ _ us hl => match us, hl with | [_, _], _ => rfl
theorem hb32 : HB "turns_of" "turns_of" sTurnsOf ["table", "changes"] := fun _ _ _ _ _ _ us hl => match us, hl with | [_, _], _ => rfl
theorem hb41 : HB "read_sheet" "read_sheet" sRead ["text"] := fun _ _ _ _ _ _ us hl => match us, hl with | [_], _ => rfl
theorem hb43 : HB "_law_source" "_law_source" sSource ["_law_script"] := fun _ _ _ _ _ _ us hl => match us, hl with | [_], _ => rfl
theorem hb44 : HB "_law_draw" "_law_draw" sDraw ["_law_source_here", "_law_limit"] := fun _ _ _ _ _ _ us hl => match us, hl with | [_, _], _ => rfl
theorem hb45 : HB "_law_points" "_law_points" sPoints ["_law_cube_here"] := fun _ _ _ _ _ _ us hl => match us, hl with | [_], _ => rfl
theorem hb46 : HB "_law_holds" "_law_holds" sHolds ["_law_cube_here", "_law_other"] := fun _ _ _ _ _ _ us hl => match us, hl with | [_, _], _ => rfl
theorem hb48 : HB "_law_span" "_law_span" sSpan ["_law_cube_here", "_law_other"] := fun _ _ _ _ _ _ us hl => match us, hl with | [_, _], _ => rfl
theorem hb49 : HB "_law_value" "_law_value" sValue ["_law_text_here", "_law_point"] := fun _ _ _ _ _ _ us hl => match us, hl with | [_, _], _ => rfl
theorem hb50 : HB "_law_size" "_law_size" sSize ["_law_source_here"] := fun _ _ _ _ _ _ us hl => match us, hl with | [_], _ => rfl
theorem hb51 : HB "_law_cube" "_law_cube" sCube ["_law_source_here", "_law_n"] := fun _ _ _ _ _ _ us hl => match us, hl with | [_, _], _ => rfl
theorem hb52 : HB "_law_text" "_law_text" sText ["_law_source_here", "_law_n"] := fun _ _ _ _ _ _ us hl => match us, hl with | [_, _], _ => rfl
theorem hb53 : HB "_law_kind" "_law_kind" sKind ["_law_text_here", "_law_change"] := fun _ _ _ _ _ _ us hl => match us, hl with | [_, _], _ => rfl
theorem hb54 : HB "_law_kinds" "_law_kinds" sKinds ["_law_text_here", "_law_n"] := fun _ _ _ _ _ _ us hl => match us, hl with | [_, _], _ => rfl
theorem hb55 : HB "_law_plain" "_law_plain" sPlain ["_law_kinds_here"] := fun _ _ _ _ _ _ us hl => match us, hl with | [_], _ => rfl
theorem hb56 : HB "_law_changes" "_law_changes" sChanges ["_law_source_here", "_law_kinds_here", "_law_most"] := fun _ _ _ _ _ _ us hl => match us, hl with | [_, _, _], _ => rfl
theorem hb57 : HB "_law_sheet" "_law_sheet" sSheet ["_law_text_here", "_law_changes_here", "_law_cover_here"] := fun _ _ _ _ _ _ us hl => match us, hl with | [_, _, _], _ => rfl
theorem hb58 : HB "_law_cover" "_law_cover" sCover ["_law_source_here", "_law_n"] := fun _ _ _ _ _ _ us hl => match us, hl with | [_, _], _ => rfl
theorem hb59 : HB "_law_is" "_law_is" sIs ["_law_told", "_law_text_here", "_law_changes_here", "_law_cover_here"] := fun _ _ _ _ _ _ us hl => match us, hl with | [_, _, _, _], _ => rfl
theorem hb60 : HB "law" "law" sLaw ["_law_script"] := fun _ _ _ _ _ _ us hl => match us, hl with | [_], _ => rfl
theorem hb39 : HB1 "write_sheet" "write_sheet" sWrite ["demand", "cover"] := fun _ _ _ _ _ _ _ us its hl hi => match us, hl, its, hi with | [_, _], _, [_], _ => ⟨_, rfl, rfl⟩
theorem hb_t1 : HB "__eq__" "Table.__eq__" sTabEq ["self", "other"] := fun _ _ _ _ _ _ us hl => match us, hl with | [_, _], _ => rfl
theorem hb_t2 : HB "sign_at" "Table.sign_at" sSignAt ["self", "point"] := fun _ _ _ _ _ _ us hl => match us, hl with | [_, _], _ => rfl
theorem hb_t3 : HB "points_with" "Table.points_with" sPointsWith ["self", "sign"] := fun _ _ _ _ _ _ us hl => match us, hl with | [_, _], _ => rfl
theorem hb_t4 : HB "offs" "Table.offs" sOffs ["self"] := fun _ _ _ _ _ _ us hl => match us, hl with | [_], _ => rfl
theorem hb_d1 : HB "__len__" "Demand.__len__" sDemLen ["self"] := fun _ _ _ _ _ _ us hl => match us, hl with | [_], _ => rfl
theorem hb_d2 : HB "__eq__" "Demand.__eq__" sDemEq ["self", "other"] := fun _ _ _ _ _ _ us hl => match us, hl with | [_, _], _ => rfl
theorem hb_r1 : HB "take" "SheetReader.take" sTake ["self", "line"] := fun _ _ _ _ _ _ us hl => match us, hl with | [_, _], _ => rfl
theorem hb_r2 : HB "take_table" "SheetReader.take_table" sTakeTable ["self", "words"] := fun _ _ _ _ _ _ us hl => match us, hl with | [_, _], _ => rfl
theorem hb_r3 : HB "take_change" "SheetReader.take_change" sTakeChange ["self", "words"] := fun _ _ _ _ _ _ us hl => match us, hl with | [_, _], _ => rfl
theorem hb_r4 : HB "take_product" "SheetReader.take_product" sTakeProduct ["self", "words"] := fun _ _ _ _ _ _ us hl => match us, hl with | [_, _], _ => rfl
theorem hb_ti : HB "__init__" "Table.__init__" sTabInit ["self", "text"] := fun _ _ _ _ _ _ us hl => match us, hl with | [_, _], _ => rfl
theorem hb_di : HB1 "__init__" "Demand.__init__" sDemInit ["self", "table", "changes"] := fun _ _ _ _ _ _ _ us its hl hi => match us, hl, its, hi with | [_, _, _], _, [_], _ => ⟨_, rfl, rfl⟩
theorem hb_ri : HB "__init__" "SheetReader.__init__" sRdInit ["self"] := fun _ _ _ _ _ _ us hl => match us, hl with | [_], _ => rfl
/-- the law, from all that the top has left -/
theorem law_of {l : PySem.W.OpenLaw} {w : World} {K : PySem.W.Frag} {mg : Str → Option Value} {fa CT CD CR CI dS : Addr} (hfa : mg "law" = some (.ref fa)) (T : Blt mg)
    (f10 : DefX K mg "signs_fit" sSignsFit ["thing", "n", "signs"])
    (f11 : DefX K mg "is_point" sIsPoint ["thing", "n"])
    (f12 : DefX K mg "is_cube" sIsCube ["thing", "n"])
    (f13 : DefX K mg "some_size" sSomeSize ["thing"])
    (f15 : DefX K mg "joined" sJoined ["c", "d"])
    (f16 : DefX K mg "filled" sFilled ["cube", "signs"])
    (f18 : DefX K mg "is_change" sIsChange ["thing", "n"])
    (f19 : DefX K mg "check_change" sCheckChange ["change", "n"])
    (f20 : DefX K mg "size_of_change" sSizeOfChange ["change"])
    (f21 : DefX K mg "change_cube" sChangeCube ["change"])
    (f22 : DefX K mg "uneven_way" sUneven ["table", "change"])
    (f23 : DefX K mg "nature" sNature ["table", "change"])
    (f24 : DefX K mg "is_plain" sIsPlain ["table", "change"])
    (f25 : DefX K mg "turning" sTurning ["table", "change"])
    (f28 : DefX K mg "check_cover" sCheckCover ["cover", "n"])
    (f31 : DefX K mg "check_changes" sCheckChanges ["table", "changes"])
    (f32 : DefX K mg "turns_of" sTurnsOf ["table", "changes"])
    (f41 : DefX K mg "read_sheet" sRead ["text"])
    (f43 : DefX K mg "_law_source" sSource ["_law_script"])
    (f44 : DefX K mg "_law_draw" sDraw ["_law_source_here", "_law_limit"])
    (f45 : DefX K mg "_law_points" sPoints ["_law_cube_here"])
    (f46 : DefX K mg "_law_holds" sHolds ["_law_cube_here", "_law_other"])
    (f48 : DefX K mg "_law_span" sSpan ["_law_cube_here", "_law_other"])
    (f49 : DefX K mg "_law_value" sValue ["_law_text_here", "_law_point"])
    (f50 : DefX K mg "_law_size" sSize ["_law_source_here"])
    (f51 : DefX K mg "_law_cube" sCube ["_law_source_here", "_law_n"])
    (f52 : DefX K mg "_law_text" sText ["_law_source_here", "_law_n"])
    (f53 : DefX K mg "_law_kind" sKind ["_law_text_here", "_law_change"])
    (f54 : DefX K mg "_law_kinds" sKinds ["_law_text_here", "_law_n"])
    (f55 : DefX K mg "_law_plain" sPlain ["_law_kinds_here"])
    (f56 : DefX K mg "_law_changes" sChanges ["_law_source_here", "_law_kinds_here", "_law_most"])
    (f57 : DefX K mg "_law_sheet" sSheet ["_law_text_here", "_law_changes_here", "_law_cover_here"])
    (f58 : DefX K mg "_law_cover" sCover ["_law_source_here", "_law_n"])
    (f59 : DefX K mg "_law_is" sIs ["_law_told", "_law_text_here", "_law_changes_here", "_law_cover_here"])
    (f39 : DefX K mg "write_sheet" sWrite ["demand", "cover"]) (f60 : DefL K mg sLaw)
    (t1 : MethX K CT "__eq__" "Table.__eq__" sTabEq ["self", "other"])
    (t2 : MethX K CT "sign_at" "Table.sign_at" sSignAt ["self", "point"])
    (t3 : MethX K CT "points_with" "Table.points_with" sPointsWith ["self", "sign"])
    (t4 : MethX K CT "offs" "Table.offs" sOffs ["self"])
    (d1 : MethX K CD "__len__" "Demand.__len__" sDemLen ["self"])
    (d2 : MethX K CD "__eq__" "Demand.__eq__" sDemEq ["self", "other"])
    (r1 : MethX K CR "take" "SheetReader.take" sTake ["self", "line"])
    (r2 : MethX K CR "take_table" "SheetReader.take_table" sTakeTable ["self", "words"])
    (r3 : MethX K CR "take_change" "SheetReader.take_change" sTakeChange ["self", "words"])
    (r4 : MethX K CR "take_product" "SheetReader.take_product" sTakeProduct ["self", "words"])
    (ti : MkX K CT "Table.__init__" sTabInit ["self", "text"])
    (di : MkX K CD "Demand.__init__" sDemInit ["self", "table", "changes"])
    (ri : MkX K CR "SheetReader.__init__" sRdInit ["self"])
    (TC : TabC K CT) (TI : C8.InsC K CT) (mT : mg "Table" = some (.ref CT)) (nT : PySem.W.notFirst K CT (.ref CT) = true) (DC : DemC K CD) (DI : C8.InsC K CD) (mD : mg "Demand" = some (.ref CD)) (nD : PySem.W.notFirst K CD (.ref CD) = true) (RC : RdC K CR) (mR : mg "SheetReader" = some (.ref CR))
    (gI : mg "InvalidTable" = some (.ref CI)) (c4 : ∃ t, mg "MOST_INPUTS" = some (.int 4 t)) (c40 : ∃ t, mg "MOST_PRODUCTS" = some (.int 40 t)) (c8 : ∃ t, mg "MOST_CHANGES" = some (.int 8 t)) (gS : mg "SIZES" = some (.ref dS)) (SZ : SizesAt K dS) :
    ∃ fd : FuncData, (∀ (s : Shared) (u : Value), BindsTo s fd ⟨[u], []⟩ [("_law_script", u)]) ∧ ∀ base : Heap, K.In base → base.Ns mainGlobals mg → FnOk l.prog w K mg base C8.CX0 11 fa fd ["_law_script"] (spLaw K) := by
  obtain ⟨a10, d10, F10, b10⟩ := f10.ex
  obtain ⟨a11, d11, F11, b11⟩ := f11.ex
  obtain ⟨a12, d12, F12, b12⟩ := f12.ex
  obtain ⟨a13, d13, F13, b13⟩ := f13.ex
  obtain ⟨a15, d15, F15, b15⟩ := f15.ex
  obtain ⟨a16, d16, F16, b16⟩ := f16.ex
  obtain ⟨a18, d18, F18, b18⟩ := f18.ex
  obtain ⟨a19, d19, F19, b19⟩ := f19.ex
  obtain ⟨a20, d20, F20, b20⟩ := f20.ex
  obtain ⟨a21, d21, F21, b21⟩ := f21.ex
  obtain ⟨a22, d22, F22, b22⟩ := f22.ex
  obtain ⟨a23, d23, F23, b23⟩ := f23.ex
  obtain ⟨a24, d24, F24, b24⟩ := f24.ex
  obtain ⟨a25, d25, F25, b25⟩ := f25.ex
  obtain ⟨a28, d28, F28, b28⟩ := f28.ex
  obtain ⟨a31, d31, F31, b31⟩ := f31.ex
  obtain ⟨a32, d32, F32, b32⟩ := f32.ex
  obtain ⟨a41, d41, F41, b41⟩ := f41.ex
  obtain ⟨a43, d43, F43, b43⟩ := f43.ex
  obtain ⟨a44, d44, F44, b44⟩ := f44.ex
  obtain ⟨a45, d45, F45, b45⟩ := f45.ex
  obtain ⟨a46, d46, F46, b46⟩ := f46.ex
  obtain ⟨a48, d48, F48, b48⟩ := f48.ex
  obtain ⟨a49, d49, F49, b49⟩ := f49.ex
  obtain ⟨a50, d50, F50, b50⟩ := f50.ex
  obtain ⟨a51, d51, F51, b51⟩ := f51.ex
  obtain ⟨a52, d52, F52, b52⟩ := f52.ex
  obtain ⟨a53, d53, F53, b53⟩ := f53.ex
  obtain ⟨a54, d54, F54, b54⟩ := f54.ex
  obtain ⟨a55, d55, F55, b55⟩ := f55.ex
  obtain ⟨a56, d56, F56, b56⟩ := f56.ex
  obtain ⟨a57, d57, F57, b57⟩ := f57.ex
  obtain ⟨a58, d58, F58, b58⟩ := f58.ex
  obtain ⟨a59, d59, F59, b59⟩ := f59.ex
  obtain ⟨a39, d39, F39, b39⟩ := f39.ex
  obtain ⟨a60, d60, F60, b60⟩ := f60.ex
  obtain ⟨a_t1, d_t1, M_t1, F_t1, b_t1⟩ := t1.ex
  obtain ⟨a_t2, d_t2, M_t2, F_t2, b_t2⟩ := t2.ex
  obtain ⟨a_t3, d_t3, M_t3, F_t3, b_t3⟩ := t3.ex
  obtain ⟨a_t4, d_t4, M_t4, F_t4, b_t4⟩ := t4.ex
  obtain ⟨a_d1, d_d1, M_d1, F_d1, b_d1⟩ := d1.ex
  obtain ⟨a_d2, d_d2, M_d2, F_d2, b_d2⟩ := d2.ex
  obtain ⟨a_r1, d_r1, M_r1, F_r1, b_r1⟩ := r1.ex
  obtain ⟨a_r2, d_r2, M_r2, F_r2, b_r2⟩ := r2.ex
  obtain ⟨a_r3, d_r3, M_r3, F_r3, b_r3⟩ := r3.ex
  obtain ⟨a_r4, d_r4, M_r4, F_r4, b_r4⟩ := r4.ex
  obtain ⟨a_ti, d_ti, M_ti, F_ti, b_ti⟩ := ti.ex
  obtain ⟨a_di, d_di, M_di, F_di, b_di⟩ := di.ex
  obtain ⟨a_ri, d_ri, M_ri, F_ri, b_ri⟩ := ri.ex
  obtain rfl : a60 = fa := by
    have e := F60.mgf.symm.trans hfa
    cases e
    rfl
  refine ⟨d60, b60, fun base _ _ => ?_⟩
  have s10 : C8.Cal l.prog w K mg base 1 "signs_fit" spSignsFit [] := ok_signs_fit F10 b10 T
  have s11 : C8.Cal l.prog w K mg base 2 "is_point" spIsPoint [] := ok_is_point F11 b11 s10
  have s12 : C8.Cal l.prog w K mg base 2 "is_cube" spIsCube [] := ok_is_cube F12 b12 s10
  have s13 : C8.Cal l.prog w K mg base 1 "some_size" spSomeSize [] := ok_some_size F13 b13 T c4
  have s15 : C8.Cal l.prog w K mg base 1 "joined" spJoined [] := ok_joined F15 b15 T
  have s16 : C8.Cal l.prog w K mg base 1 "filled" spFilled [] := ok_filled F16 b16
  have s18 : C8.Cal l.prog w K mg base 3 "is_change" spIsChange [] := ok_is_change F18 b18 T s11
  have s19 : C8.Cal l.prog w K mg base 4 "check_change" spCheckChange [] := ok_check_change F19 b19 s18
  have s20 : C8.Cal l.prog w K mg base 4 "size_of_change" spSizeOfChange [] := ok_size_of_change F20 b20 T s13 s18
  have s21 : C8.Cal l.prog w K mg base 5 "change_cube" spChangeCube [] := ok_change_cube F21 b21 s20 s15
  have m2 : C8.Met l.prog w K mg base 1 CT "sign_at" (spSignAt CT) [] := ok_sign_at TC M_t2 F_t2 b_t2 T
  have s22 : C8.Cal l.prog w K mg base 2 "uneven_way" (spUneven CT) [] := ok_uneven F22 b22 m2 s15 s16
  have s23 : C8.Cal l.prog w K mg base 5 "nature" (spNature CT) [] := ok_nature TC F23 b23 s19 m2 s15 s16 s22
  have s24 : C8.Cal l.prog w K mg base 6 "is_plain" (spIsPlain CT) [] := ok_is_plain F24 b24 T s23
  have s25 : C8.Cal l.prog w K mg base 6 "turning" (spTurning CT) [] := ok_turning F25 b25 s23
  have s28 : C8.Cal l.prog w K mg base 3 "check_cover" spCheckCover [] := ok_check_cover F28 b28 T c40 s12
  have s31 : C8.Cal l.prog w K mg base 7 "check_changes" (spCheckChanges CT) [] := ok_check_changes TC F31 b31 T c8 s18 s24
  have s32 : C8.Cal l.prog w K mg base 7 "turns_of" (spTurnsOf CT) [] := ok_turns_of F32 b32 T s25 s21
  have kT : C8.Mak l.prog w K mg base 1 "Table" CT (spTabInit CT) [] := ok_tab_init TC M_ti mT F_ti b_ti T gS SZ
  have m3 : C8.Met l.prog w K mg base 2 CT "points_with" (spPointsWith CT) [] := ok_points_with TC M_t3 F_t3 b_t3 s16 m2
  have m4 : C8.Met l.prog w K mg base 3 CT "offs" (spOffs CT) [] := ok_offs TC M_t4 F_t4 b_t4 m3
  have gE : FnOk l.prog w K mg base C8.CX0 1 a_t1 d_t1 ["self", "other"] (spTabEq CT) := ok_tab_eq TC TI mT F_t1 T
  have kD : C8.Mak l.prog w K mg base 8 "Demand" CD (spDemInit CT CD) [] := ok_dem_init DC M_di mD F_di b_di T s31 s32 m4
  have gL : FnOk l.prog w K mg base C8.CX0 1 a_d1 d_d1 ["self"] (spDemLen CT CD) := ok_dem_len DC F_d1 T
  have gQ : FnOk l.prog w K mg base C8.CX0 2 a_d2 d_d2 ["self", "other"] (spDemEq CT CD) := ok_dem_eq DC DI mD F_d2 T ⟨M_t1.at_, M_t1.fn⟩ nT gE b_t1
  have s39 : C8.Cal l.prog w K mg base 4 "write_sheet" (spWrite CT CD) [] := ok_write TC DC F39 b39 s28
  have gR : FnOk l.prog w K mg base C8.CX0 1 a_ri d_ri ["self"] (spRdInit CT CR) := ok_rd_init RC M_ri mR F_ri b_ri
  have n2 : C8.Met l.prog w K mg base 3 CR "take_table" (spTakeTable CT CR) [] := ok_take_table RC M_r2 F_r2 b_r2 T gI kT
  have n3 : C8.Met l.prog w K mg base 7 CR "take_change" (spTakeChange CT CR) [] := ok_take_change TC RC M_r3 F_r3 b_r3 T c8 s18 s24
  have n4 : C8.Met l.prog w K mg base 3 CR "take_product" (spTakeProduct CT CR) [] := ok_take_product TC RC M_r4 F_r4 b_r4 T c40 s12
  have n1 : C8.Met l.prog w K mg base 8 CR "take" (spTake CT CR) [] := ok_take RC M_r1 F_r1 b_r1 n2 n3 n4
  have s41 : C8.Cal l.prog w K mg base 10 "read_sheet" (spRead CT CD) [] := ok_read RC F41 b41 T M_ri mR gR b_ri n1 kD
  have s43 : C8.Cal l.prog w K mg base 1 "_law_source" (spSource K) [] := ok_source F43 b43 T
  have s44 : C8.Cal l.prog w K mg base 1 "_law_draw" spDraw [] := ok_draw F44 b44 T
  have s45 : C8.Cal l.prog w K mg base 1 "_law_points" spPoints [] := ok_points F45 b45
  have s46 : C8.Cal l.prog w K mg base 1 "_law_holds" spHolds [] := ok_holds F46 b46 T
  have s48 : C8.Cal l.prog w K mg base 1 "_law_span" spSpan [] := ok_span F48 b48 T
  have s49 : C8.Cal l.prog w K mg base 1 "_law_value" spValue [] := ok_value F49 b49 T
  have s50 : C8.Cal l.prog w K mg base 2 "_law_size" spSize [] := ok_size F50 b50 s44
  have s51 : C8.Cal l.prog w K mg base 2 "_law_cube" spCube [] := ok_lcube F51 b51 T s44
  have s52 : C8.Cal l.prog w K mg base 3 "_law_text" spText [] := ok_text F52 b52 T s44 s51 s45 s46
  have s53 : C8.Cal l.prog w K mg base 2 "_law_kind" spKind [] := ok_kind F53 b53 T s45 s48 s49
  have s54 : C8.Cal l.prog w K mg base 3 "_law_kinds" spKinds [] := ok_kinds F54 b54 s45 s53
  have s55 : C8.Cal l.prog w K mg base 1 "_law_plain" spPlain [] := ok_plain F55 b55
  have s56 : C8.Cal l.prog w K mg base 2 "_law_changes" spChanges [] := ok_changes F56 b56 T s44 s55 s48
  have s57 : C8.Cal l.prog w K mg base 1 "_law_sheet" spSheet [] := ok_sheet F57 b57
  have s58 : C8.Cal l.prog w K mg base 3 "_law_cover" spCover [] := ok_cover F58 b58 T s44 s51
  have s59 : C8.Cal l.prog w K mg base 3 "_law_is" (spIs CT CD) [] := ok_is TC DC F59 b59 T ⟨M_d1.at_, M_d1.fn⟩ gL b_d1
  exact ok_law F60 T s43 s50 s52 s54 s56 kT kD s58 s57 s41 s59 s39 ⟨M_d2.at_, M_d2.fn⟩ nD gQ b_d2
theorem walk {l : PySem.W.OpenLaw} {q : Program} {loose : List Str} {XP : (Str → Option Value) → Heap → Prop} {YP : World → Heap → Prop} {d : DefRec} {K : Params → PySem.W.Frag} (hn : l.most = some 63) (hdf : d.params.defaults = [])
    (hY : ∀ (w : World) (h : Heap), YP w h → (K w.params).In h)
    (F : ∀ (w : World) (mg : Str → Option Value) (fa : Addr) (h : Heap), (K w.params).In h → h.Ns mainGlobals mg → mg d.name = some (.ref fa) →
      ∃ fd : FuncData, (∀ (s : Shared) (u : Value), BindsTo s fd ⟨[u], []⟩ [("_law_script", u)]) ∧ ∀ base : Heap, (K w.params).In base → base.Ns mainGlobals mg → FnOk l.prog w (K w.params) mg base C8.CX0 11 fa fd ["_law_script"] (spLaw (K w.params))) :
    PySem.W.WalkO q loose XP YP l.row.toRowW d [] (fun f vs => PySem.call f vs) :=
  L2.walk_of (n := 63) (k := 11) (x := "_law_script") (CX := fun _ => C8.CX0) (sp := fun w => spLaw (K w.params)) hn (by decide) hdf ⟨rfl, by decide, by decide⟩ hY F (fun _ _ a ns hl _ hS => ⟨a, ns, rfl, hS, hl, fun _ => rfl⟩) fun _ _ _ _ _ z => z
end Sc

section
open PySem PySem.W PyProof.Rows
set_option maxHeartbeats 0
open_top hd for PySem.Challenge.rw_steadycover_k62_whole_sheets_round_trip
end
section
open PySem PySem.W PyProof.Rows
set_option maxHeartbeats 0
theorem PySem.Challenge.cw_steadycover_k62_whole_sheets_round_trip_holds : PySem.Challenge.rw_steadycover_k62_whole_sheets_round_trip.Holds := by
  refine hd ?_
  k_fill
  refine Sc.walk (l := PySem.Challenge.rw_steadycover_k62_whole_sheets_round_trip) rfl rfl (fun w h Y => PySem.W.kIn_of Y) ?F
  case F =>
    intro w mg fa h KX G hmg
    refine' Sc.kblt KX G ?z_isi_1 ?z_str_1 ?z_len_1 ?z_tup_1 ?z_lst_1 ?z_int_1 ?z_enu_1 ?z_rng_1 ?z_any_1 ?z_all_1 ?h_1
    (case z_isi_1 => k_is); (case z_str_1 => k_is); (case z_len_1 => k_is); (case z_tup_1 => k_is); (case z_lst_1 => k_is); (case z_int_1 => k_is); (case z_enu_1 => k_is); (case z_rng_1 => k_is); (case z_any_1 => k_is); (case z_all_1 => k_is)
    intro T
    refine' Sc.kdef KX G "signs_fit" Sc.sSignsFit ["thing", "n", "signs"] Sc.hb10 ?a_2 ?l_2 ?c_2 ?k_2 ?h_2
    (case a_2 => k_is); (case l_2 => k_is); (case c_2 => k_is); (case k_2 => k_is)
    intro f10
    refine' Sc.kdef KX G "is_point" Sc.sIsPoint ["thing", "n"] Sc.hb11 ?a_3 ?l_3 ?c_3 ?k_3 ?h_3
    (case a_3 => k_is); (case l_3 => k_is); (case c_3 => k_is); (case k_3 => k_is)
    intro f11
    refine' Sc.kdef KX G "is_cube" Sc.sIsCube ["thing", "n"] Sc.hb12 ?a_4 ?l_4 ?c_4 ?k_4 ?h_4
    (case a_4 => k_is); (case l_4 => k_is); (case c_4 => k_is); (case k_4 => k_is)
    intro f12
    refine' Sc.kdef KX G "some_size" Sc.sSomeSize ["thing"] Sc.hb13 ?a_5 ?l_5 ?c_5 ?k_5 ?h_5
    (case a_5 => k_is); (case l_5 => k_is); (case c_5 => k_is); (case k_5 => k_is)
    intro f13
    refine' Sc.kdef KX G "joined" Sc.sJoined ["c", "d"] Sc.hb15 ?a_6 ?l_6 ?c_6 ?k_6 ?h_6
    (case a_6 => k_is); (case l_6 => k_is); (case c_6 => k_is); (case k_6 => k_is)
    intro f15
    refine' Sc.kdef KX G "filled" Sc.sFilled ["cube", "signs"] Sc.hb16 ?a_7 ?l_7 ?c_7 ?k_7 ?h_7
    (case a_7 => k_is); (case l_7 => k_is); (case c_7 => k_is); (case k_7 => k_is)
    intro f16
    refine' Sc.kdef KX G "is_change" Sc.sIsChange ["thing", "n"] Sc.hb18 ?a_8 ?l_8 ?c_8 ?k_8 ?h_8
    (case a_8 => k_is); (case l_8 => k_is); (case c_8 => k_is); (case k_8 => k_is)
    intro f18
    refine' Sc.kdef KX G "check_change" Sc.sCheckChange ["change", "n"] Sc.hb19 ?a_9 ?l_9 ?c_9 ?k_9 ?h_9
    (case a_9 => k_is); (case l_9 => k_is); (case c_9 => k_is); (case k_9 => k_is)
    intro f19
    refine' Sc.kdef KX G "size_of_change" Sc.sSizeOfChange ["change"] Sc.hb20 ?a_10 ?l_10 ?c_10 ?k_10 ?h_10
    (case a_10 => k_is); (case l_10 => k_is); (case c_10 => k_is); (case k_10 => k_is)
    intro f20
    refine' Sc.kdef KX G "change_cube" Sc.sChangeCube ["change"] Sc.hb21 ?a_11 ?l_11 ?c_11 ?k_11 ?h_11
    (case a_11 => k_is); (case l_11 => k_is); (case c_11 => k_is); (case k_11 => k_is)
    intro f21
    refine' Sc.kdef KX G "uneven_way" Sc.sUneven ["table", "change"] Sc.hb22 ?a_12 ?l_12 ?c_12 ?k_12 ?h_12
    (case a_12 => k_is); (case l_12 => k_is); (case c_12 => k_is); (case k_12 => k_is)
    intro f22
    refine' Sc.kdef KX G "nature" Sc.sNature ["table", "change"] Sc.hb23 ?a_13 ?l_13 ?c_13 ?k_13 ?h_13
    (case a_13 => k_is); (case l_13 => k_is); (case c_13 => k_is); (case k_13 => k_is)
    intro f23
    refine' Sc.kdef KX G "is_plain" Sc.sIsPlain ["table", "change"] Sc.hb24 ?a_14 ?l_14 ?c_14 ?k_14 ?h_14
    (case a_14 => k_is); (case l_14 => k_is); (case c_14 => k_is); (case k_14 => k_is)
    intro f24
    refine' Sc.kdef KX G "turning" Sc.sTurning ["table", "change"] Sc.hb25 ?a_15 ?l_15 ?c_15 ?k_15 ?h_15
    (case a_15 => k_is); (case l_15 => k_is); (case c_15 => k_is); (case k_15 => k_is)
    intro f25
    refine' Sc.kdef KX G "check_cover" Sc.sCheckCover ["cover", "n"] Sc.hb28 ?a_16 ?l_16 ?c_16 ?k_16 ?h_16
    (case a_16 => k_is); (case l_16 => k_is); (case c_16 => k_is); (case k_16 => k_is)
    intro f28
    refine' Sc.kdef KX G "check_changes" Sc.sCheckChanges ["table", "changes"] Sc.hb31 ?a_17 ?l_17 ?c_17 ?k_17 ?h_17
    (case a_17 => k_is); (case l_17 => k_is); (case c_17 => k_is); (case k_17 => k_is)
    intro f31
    refine' Sc.kdef KX G "turns_of" Sc.sTurnsOf ["table", "changes"] Sc.hb32 ?a_18 ?l_18 ?c_18 ?k_18 ?h_18
    (case a_18 => k_is); (case l_18 => k_is); (case c_18 => k_is); (case k_18 => k_is)
    intro f32
    refine' Sc.kdef KX G "read_sheet" Sc.sRead ["text"] Sc.hb41 ?a_19 ?l_19 ?c_19 ?k_19 ?h_19
    (case a_19 => k_is); (case l_19 => k_is); (case c_19 => k_is); (case k_19 => k_is)
    intro f41
    refine' Sc.kdef KX G "_law_source" Sc.sSource ["_law_script"] Sc.hb43 ?a_20 ?l_20 ?c_20 ?k_20 ?h_20
    (case a_20 => k_is); (case l_20 => k_is); (case c_20 => k_is); (case k_20 => k_is)
    intro f43
    refine' Sc.kdef KX G "_law_draw" Sc.sDraw ["_law_source_here", "_law_limit"] Sc.hb44 ?a_21 ?l_21 ?c_21 ?k_21 ?h_21
    (case a_21 => k_is); (case l_21 => k_is); (case c_21 => k_is); (case k_21 => k_is)
    intro f44
    refine' Sc.kdef KX G "_law_points" Sc.sPoints ["_law_cube_here"] Sc.hb45 ?a_22 ?l_22 ?c_22 ?k_22 ?h_22
    (case a_22 => k_is); (case l_22 => k_is); (case c_22 => k_is); (case k_22 => k_is)
    intro f45
    refine' Sc.kdef KX G "_law_holds" Sc.sHolds ["_law_cube_here", "_law_other"] Sc.hb46 ?a_23 ?l_23 ?c_23 ?k_23 ?h_23
    (case a_23 => k_is); (case l_23 => k_is); (case c_23 => k_is); (case k_23 => k_is)
    intro f46
    refine' Sc.kdef KX G "_law_span" Sc.sSpan ["_law_cube_here", "_law_other"] Sc.hb48 ?a_24 ?l_24 ?c_24 ?k_24 ?h_24
    (case a_24 => k_is); (case l_24 => k_is); (case c_24 => k_is); (case k_24 => k_is)
    intro f48
    refine' Sc.kdef KX G "_law_value" Sc.sValue ["_law_text_here", "_law_point"] Sc.hb49 ?a_25 ?l_25 ?c_25 ?k_25 ?h_25
    (case a_25 => k_is); (case l_25 => k_is); (case c_25 => k_is); (case k_25 => k_is)
    intro f49
    refine' Sc.kdef KX G "_law_size" Sc.sSize ["_law_source_here"] Sc.hb50 ?a_26 ?l_26 ?c_26 ?k_26 ?h_26
    (case a_26 => k_is); (case l_26 => k_is); (case c_26 => k_is); (case k_26 => k_is)
    intro f50
    refine' Sc.kdef KX G "_law_cube" Sc.sCube ["_law_source_here", "_law_n"] Sc.hb51 ?a_27 ?l_27 ?c_27 ?k_27 ?h_27
    (case a_27 => k_is); (case l_27 => k_is); (case c_27 => k_is); (case k_27 => k_is)
    intro f51
    refine' Sc.kdef KX G "_law_text" Sc.sText ["_law_source_here", "_law_n"] Sc.hb52 ?a_28 ?l_28 ?c_28 ?k_28 ?h_28
    (case a_28 => k_is); (case l_28 => k_is); (case c_28 => k_is); (case k_28 => k_is)
    intro f52
    refine' Sc.kdef KX G "_law_kind" Sc.sKind ["_law_text_here", "_law_change"] Sc.hb53 ?a_29 ?l_29 ?c_29 ?k_29 ?h_29
    (case a_29 => k_is); (case l_29 => k_is); (case c_29 => k_is); (case k_29 => k_is)
    intro f53
    refine' Sc.kdef KX G "_law_kinds" Sc.sKinds ["_law_text_here", "_law_n"] Sc.hb54 ?a_30 ?l_30 ?c_30 ?k_30 ?h_30
    (case a_30 => k_is); (case l_30 => k_is); (case c_30 => k_is); (case k_30 => k_is)
    intro f54
    refine' Sc.kdef KX G "_law_plain" Sc.sPlain ["_law_kinds_here"] Sc.hb55 ?a_31 ?l_31 ?c_31 ?k_31 ?h_31
    (case a_31 => k_is); (case l_31 => k_is); (case c_31 => k_is); (case k_31 => k_is)
    intro f55
    refine' Sc.kdef KX G "_law_changes" Sc.sChanges ["_law_source_here", "_law_kinds_here", "_law_most"] Sc.hb56 ?a_32 ?l_32 ?c_32 ?k_32 ?h_32
    (case a_32 => k_is); (case l_32 => k_is); (case c_32 => k_is); (case k_32 => k_is)
    intro f56
    refine' Sc.kdef KX G "_law_sheet" Sc.sSheet ["_law_text_here", "_law_changes_here", "_law_cover_here"] Sc.hb57 ?a_33 ?l_33 ?c_33 ?k_33 ?h_33
    (case a_33 => k_is); (case l_33 => k_is); (case c_33 => k_is); (case k_33 => k_is)
    intro f57
    refine' Sc.kdef KX G "_law_cover" Sc.sCover ["_law_source_here", "_law_n"] Sc.hb58 ?a_34 ?l_34 ?c_34 ?k_34 ?h_34
    (case a_34 => k_is); (case l_34 => k_is); (case c_34 => k_is); (case k_34 => k_is)
    intro f58
    refine' Sc.kdef KX G "_law_is" Sc.sIs ["_law_told", "_law_text_here", "_law_changes_here", "_law_cover_here"] Sc.hb59 ?a_35 ?l_35 ?c_35 ?k_35 ?h_35
    (case a_35 => k_is); (case l_35 => k_is); (case c_35 => k_is); (case k_35 => k_is)
    intro f59
    refine' Sc.kdef1 KX G "write_sheet" Sc.sWrite ["demand", "cover"] Sc.hb39 ?a_36 ?l_36 ?lT_36 ?c_36 ?k_36 ?h_36
    (case a_36 => k_is); (case l_36 => k_is); (case lT_36 => k_is); (case c_36 => k_is); (case k_36 => k_is)
    intro f39
    refine' Sc.klaw KX G Sc.sLaw Sc.hb60 ?a_37 ?l_37 ?c_37 ?k_37 ?h_37
    (case a_37 => k_is); (case l_37 => k_is); (case c_37 => k_is); (case k_37 => k_is)
    intro f60
    refine' Sc.kref KX G "Table" ?a_38 ?h_38
    (case a_38 => k_is)
    intro mT
    refine' Sc.kref KX G "Demand" ?a_39 ?h_39
    (case a_39 => k_is)
    intro mD
    refine' Sc.kref KX G "SheetReader" ?a_40 ?h_40
    (case a_40 => k_is)
    intro mR
    refine' Sc.kref KX G "InvalidTable" ?a_41 ?h_41
    (case a_41 => k_is)
    intro gI
    refine' Sc.kref KX G "SIZES" ?a_42 ?h_42
    (case a_42 => k_is)
    intro gS
    refine' Sc.ksz KX gS ?l_sz ?ne_sz ?h_sz
    (case l_sz => k_is); (case ne_sz => decide)
    intro SZ
    refine' Sc.kint KX G "MOST_INPUTS" 4 ?a_43 ?h_43
    (case a_43 => k_is)
    intro c4
    refine' Sc.kint KX G "MOST_PRODUCTS" 40 ?a_44 ?h_44
    (case a_44 => k_is)
    intro c40
    refine' Sc.kint KX G "MOST_CHANGES" 8 ?a_45 ?h_45
    (case a_45 => k_is)
    intro c8
    refine' Sc.kcl KX mT ?pg_46 ?hd_46 ?po_46 ?sa_46 ?h_46
    (case pg_46 => k_is); (case hd_46 => k_is); (case po_46 => k_is); (case sa_46 => k_is)
    intro lmT
    refine' Sc.kcl KX mD ?pg_47 ?hd_47 ?po_47 ?sa_47 ?h_47
    (case pg_47 => k_is); (case hd_47 => k_is); (case po_47 => k_is); (case sa_47 => k_is)
    intro lmD
    refine' Sc.kcl KX mR ?pg_48 ?hd_48 ?po_48 ?sa_48 ?h_48
    (case pg_48 => k_is); (case hd_48 => k_is); (case po_48 => k_is); (case sa_48 => k_is)
    intro lmR
    refine' Sc.kins KX mT lmT ?ha_49 ?hn_49 ?htk_49 ?hm_49 ?nf_49 ?h_49
    (case ha_49 => k_is); (case hn_49 => k_is); (case htk_49 => k_is); (case hm_49 => k_is); (case nf_49 => k_is)
    intro ImT nmT
    refine' Sc.kins KX mD lmD ?ha_50 ?hn_50 ?htk_50 ?hm_50 ?nf_50 ?h_50
    (case ha_50 => k_is); (case hn_50 => k_is); (case htk_50 => k_is); (case hm_50 => k_is); (case nf_50 => k_is)
    intro ImD nmD
    refine' Sc.kno KX mT "n" ?a_51 ?h_51
    (case a_51 => k_is)
    intro o_mT_n
    refine' Sc.kno KX mT "text" ?a_52 ?h_52
    (case a_52 => k_is)
    intro o_mT_text
    refine' Sc.kno KX mD "table" ?a_53 ?h_53
    (case a_53 => k_is)
    intro o_mD_table
    refine' Sc.kno KX mD "changes" ?a_54 ?h_54
    (case a_54 => k_is)
    intro o_mD_changes
    refine' Sc.kno KX mD "steep" ?a_55 ?h_55
    (case a_55 => k_is)
    intro o_mD_steep
    refine' Sc.kno KX mD "off_list" ?a_56 ?h_56
    (case a_56 => k_is)
    intro o_mD_off_list
    refine' Sc.kno KX mR "table" ?a_57 ?h_57
    (case a_57 => k_is)
    intro o_mR_table
    refine' Sc.kno KX mR "changes" ?a_58 ?h_58
    (case a_58 => k_is)
    intro o_mR_changes
    refine' Sc.kno KX mR "cubes" ?a_59 ?h_59
    (case a_59 => k_is)
    intro o_mR_cubes
    refine' Sc.kmeth KX mT "__eq__" "Table.__eq__" Sc.sTabEq ["self", "other"] Sc.hb_t1 ?a_60 ?i_60 ?l_60 ?c_60 ?k_60 ?h_60
    (case a_60 => k_is); (case i_60 => k_is); (case l_60 => k_is); (case c_60 => k_is); (case k_60 => k_is)
    intro t1
    refine' Sc.kmeth KX mT "sign_at" "Table.sign_at" Sc.sSignAt ["self", "point"] Sc.hb_t2 ?a_61 ?i_61 ?l_61 ?c_61 ?k_61 ?h_61
    (case a_61 => k_is); (case i_61 => k_is); (case l_61 => k_is); (case c_61 => k_is); (case k_61 => k_is)
    intro t2
    refine' Sc.kmeth KX mT "points_with" "Table.points_with" Sc.sPointsWith ["self", "sign"] Sc.hb_t3 ?a_62 ?i_62 ?l_62 ?c_62 ?k_62 ?h_62
    (case a_62 => k_is); (case i_62 => k_is); (case l_62 => k_is); (case c_62 => k_is); (case k_62 => k_is)
    intro t3
    refine' Sc.kmeth KX mT "offs" "Table.offs" Sc.sOffs ["self"] Sc.hb_t4 ?a_63 ?i_63 ?l_63 ?c_63 ?k_63 ?h_63
    (case a_63 => k_is); (case i_63 => k_is); (case l_63 => k_is); (case c_63 => k_is); (case k_63 => k_is)
    intro t4
    refine' Sc.kmeth KX mD "__len__" "Demand.__len__" Sc.sDemLen ["self"] Sc.hb_d1 ?a_64 ?i_64 ?l_64 ?c_64 ?k_64 ?h_64
    (case a_64 => k_is); (case i_64 => k_is); (case l_64 => k_is); (case c_64 => k_is); (case k_64 => k_is)
    intro d1
    refine' Sc.kmeth KX mD "__eq__" "Demand.__eq__" Sc.sDemEq ["self", "other"] Sc.hb_d2 ?a_65 ?i_65 ?l_65 ?c_65 ?k_65 ?h_65
    (case a_65 => k_is); (case i_65 => k_is); (case l_65 => k_is); (case c_65 => k_is); (case k_65 => k_is)
    intro d2
    refine' Sc.kmeth KX mR "take" "SheetReader.take" Sc.sTake ["self", "line"] Sc.hb_r1 ?a_66 ?i_66 ?l_66 ?c_66 ?k_66 ?h_66
    (case a_66 => k_is); (case i_66 => k_is); (case l_66 => k_is); (case c_66 => k_is); (case k_66 => k_is)
    intro r1
    refine' Sc.kmeth KX mR "take_table" "SheetReader.take_table" Sc.sTakeTable ["self", "words"] Sc.hb_r2 ?a_67 ?i_67 ?l_67 ?c_67 ?k_67 ?h_67
    (case a_67 => k_is); (case i_67 => k_is); (case l_67 => k_is); (case c_67 => k_is); (case k_67 => k_is)
    intro r2
    refine' Sc.kmeth KX mR "take_change" "SheetReader.take_change" Sc.sTakeChange ["self", "words"] Sc.hb_r3 ?a_68 ?i_68 ?l_68 ?c_68 ?k_68 ?h_68
    (case a_68 => k_is); (case i_68 => k_is); (case l_68 => k_is); (case c_68 => k_is); (case k_68 => k_is)
    intro r3
    refine' Sc.kmeth KX mR "take_product" "SheetReader.take_product" Sc.sTakeProduct ["self", "words"] Sc.hb_r4 ?a_69 ?i_69 ?l_69 ?c_69 ?k_69 ?h_69
    (case a_69 => k_is); (case i_69 => k_is); (case l_69 => k_is); (case c_69 => k_is); (case k_69 => k_is)
    intro r4
    refine' Sc.kinit KX mT "Table.__init__" Sc.sTabInit ["self", "text"] Sc.hb_ti ?mk_70 ?a_70 ?i_70 ?kc_70 ?l_70 ?c_70 ?h_70
    (case mk_70 => k_is); (case a_70 => k_is); (case i_70 => k_is); (case kc_70 => k_is); (case l_70 => k_is); (case c_70 => k_is)
    intro ti
    refine' Sc.kinit1 KX mD "Demand.__init__" Sc.sDemInit ["self", "table", "changes"] Sc.hb_di ?mk_71 ?a_71 ?i_71 ?kc_71 ?l_71 ?lT_71 ?c_71 ?h_71
    (case mk_71 => k_is); (case a_71 => k_is); (case i_71 => k_is); (case kc_71 => k_is); (case l_71 => k_is); (case lT_71 => k_is); (case c_71 => k_is)
    intro di
    refine' Sc.kinit KX mR "SheetReader.__init__" Sc.sRdInit ["self"] Sc.hb_ri ?mk_72 ?a_72 ?i_72 ?kc_72 ?l_72 ?c_72 ?h_72
    (case mk_72 => k_is); (case a_72 => k_is); (case i_72 => k_is); (case kc_72 => k_is); (case l_72 => k_is); (case c_72 => k_is)
    intro ri
    exact Sc.law_of hmg T f10 f11 f12 f13 f15 f16 f18 f19 f20 f21 f22 f23 f24 f25 f28 f31 f32 f41 f43 f44 f45 f46 f48 f49 f50 f51 f52 f53 f54 f55 f56 f57 f58 f59 f39 f60 t1 t2 t3 t4 d1 d2 r1 r2 r3 r4 ti di ri ⟨lmT, o_mT_n, o_mT_text⟩ ImT mT nmT ⟨lmD, o_mD_table, o_mD_changes, o_mD_steep, o_mD_off_list⟩ ImD mD nmD ⟨lmR, o_mR_table, o_mR_changes, o_mR_cubes⟩ mR gI c4 c40 c8 gS SZ
end
