import PyProof.Rows.All
import Wide.All
import OpenK.AllK
import Wide.FinOn
import HandS.ForMost
import HandS.Zip
import HandS.Walk
import KE.GoesEnum
import KE.DatumOrd
import PyProof.ReprRoads
import KE.KDictZip
import KE.KItemsList
import HandS.IsInst
import HandS.Conv
import HandS.TupAny
import HandS.TupMul
import HandS.Rev
import HandS.RevRange
import PySem.Challenge.RW_besthours_k36_whole_values_that_can_not
import PyProof.ReprLen
section
set_option autoImplicit false
/-! The mathematics of values that can't be: good families, the greatest one. Core Lean alone. -/
namespace K36

/-! ### ascending lists -/
abbrev asc (l : List Nat) : Prop := l.Pairwise (· < ·)
theorem asc_ext : ∀ {a b : List Nat}, asc a → asc b → (∀ x, x ∈ a ↔ x ∈ b) → a = b
  | [], [], _, _, _ => rfl
  | [], y :: b, _, _, h => absurd ((h y).mpr List.mem_cons_self) List.not_mem_nil
  | x :: a, [], _, _, h => absurd ((h x).mp List.mem_cons_self) List.not_mem_nil
  | x :: a, y :: b, ha, hb, h => by
    obtain ⟨ha1, ha2⟩ := List.pairwise_cons.mp ha
    obtain ⟨hb1, hb2⟩ := List.pairwise_cons.mp hb
    have exy : x = y := by
      rcases List.mem_cons.mp ((h x).mp List.mem_cons_self) with e | e
      · exact e
      · rcases List.mem_cons.mp ((h y).mpr List.mem_cons_self) with e2 | e2
        · exact e2.symm
        · have h1 := hb1 x e
          have h2 := ha1 y e2
          omega
    subst exy
    refine congrArg (x :: ·) (asc_ext ha2 hb2 fun z => ⟨fun hz => ?_, fun hz => ?_⟩)
    · rcases List.mem_cons.mp ((h z).mp (List.mem_cons_of_mem _ hz)) with e | e
      · have := ha1 z hz; omega
      · exact e
    · rcases List.mem_cons.mp ((h z).mpr (List.mem_cons_of_mem _ hz)) with e | e
      · have := hb1 z hz; omega
      · exact e
theorem asc_range (n : Nat) : asc (List.range n) := List.pairwise_lt_range

/-! ### the greatest of a list -/
def mx : List Int → Int
  | [] => 0
  | [x] => x
  | x :: y :: r => if mx (y :: r) < x then x else mx (y :: r)
theorem mx_mem : ∀ {l : List Int}, l ≠ [] → mx l ∈ l
  | [], h => absurd rfl h
  | [x], _ => by simp [mx]
  | x :: y :: r, _ => by
    have ih := mx_mem (l := y :: r) (by simp)
    unfold mx
    by_cases h : mx (y :: r) < x
    · rw [if_pos h]; exact List.mem_cons_self
    · rw [if_neg h]; exact List.mem_cons_of_mem _ ih
theorem le_mx : ∀ {l : List Int} {y : Int}, y ∈ l → y ≤ mx l
  | [], _, h => absurd h List.not_mem_nil
  | [x], y, h => by
    have e : y = x := by simpa using h
    subst e
    exact Int.le_refl _
  | x :: z :: r, y, h => by
    have ih := @le_mx (z :: r) y
    unfold mx
    rcases List.mem_cons.mp h with e | e
    · by_cases h2 : mx (z :: r) < x
      · rw [if_pos h2]; omega
      · rw [if_neg h2]; omega
    · have h3 := ih e
      by_cases h2 : mx (z :: r) < x
      · rw [if_pos h2]; omega
      · rw [if_neg h2]; omega
theorem mx_uniq {l : List Int} {m : Int} (h1 : m ∈ l) (h2 : ∀ y, y ∈ l → y ≤ m) : m = mx l := by
  have a := le_mx h1
  have b := h2 _ (mx_mem (List.ne_nil_of_mem h1))
  omega

/-! ### sums and families -/
/-- terms and a bound -/
abbrev Sm := List (Nat × List Int) × Int
abbrev Fam := List (List Nat)
/-- the values of a choice -/
abbrev at' (S : Fam) (c : Nat) : List Nat := S.getD c []
def tp (ws : List Int) (vs : List Nat) : Int := mx (vs.map fun v => ws.getD v 0)
def tops (ts : List (Nat × List Int)) (S : Fam) : List Int := ts.map fun p => tp p.2 (at' S p.1)
def tsum (ts : List (Nat × List Int)) (S : Fam) : Int := (tops ts S).sum
theorem tsum_nil (S : Fam) : tsum [] S = 0 := rfl
theorem tsum_cons (p : Nat × List Int) (ts : List (Nat × List Int)) (S : Fam) : tsum (p :: ts) S = tp p.2 (at' S p.1) + tsum ts S := by
  unfold tsum tops
  rw [List.map_cons, List.sum_cons]
/-- G lies in S -/
def Sub (G S : Fam) : Prop := ∀ c v, v ∈ at' G c → v ∈ at' S c
theorem Sub.refl (S : Fam) : Sub S S := fun _ _ h => h
theorem Sub.trans {A B C : Fam} (h : Sub A B) (k : Sub B C) : Sub A C := fun c v x => k c v (h c v x)

theorem tp_mono {ws : List Int} {a b : List Nat} (ha : a ≠ []) (h : ∀ v, v ∈ a → v ∈ b) : tp ws a ≤ tp ws b := by
  unfold tp
  have h1 : (a.map fun v => ws.getD v 0) ≠ [] := by
    intro e
    exact ha (List.map_eq_nil_iff.mp e)
  obtain ⟨v, hv, e⟩ := List.mem_map.mp (mx_mem h1)
  rw [← e]
  exact le_mx (List.mem_map.mpr ⟨v, h v hv, rfl⟩)
theorem le_tp {ws : List Int} {a : List Nat} {v : Nat} (h : v ∈ a) : ws.getD v 0 ≤ tp ws a := le_mx (List.mem_map.mpr ⟨v, h, rfl⟩)
theorem tsum_mono {G S : Fam} (hs : Sub G S) : ∀ {ts : List (Nat × List Int)}, (∀ p, p ∈ ts → at' G p.1 ≠ []) → tsum ts G ≤ tsum ts S
  | [], _ => by rw [tsum_nil, tsum_nil]; exact Int.le_refl _
  | p :: ts, h => by
    have ih := tsum_mono hs (ts := ts) fun q hq => h q (List.mem_cons_of_mem _ hq)
    have h1 := tp_mono (ws := p.2) (h p List.mem_cons_self) (hs p.1)
    rw [tsum_cons, tsum_cons]
    omega
/-- what stands at the other choices -/
theorem other_mono {G S : Fam} (hs : Sub G S) : ∀ {ts : List (Nat × List Int)} {p : Nat × List Int}, (∀ q, q ∈ ts → at' G q.1 ≠ []) → p ∈ ts →
    tsum ts G - tp p.2 (at' G p.1) ≤ tsum ts S - tp p.2 (at' S p.1)
  | [], _, _, h => absurd h List.not_mem_nil
  | q :: ts, p, h, hp => by
    have hr : ∀ r, r ∈ ts → at' G r.1 ≠ [] := fun r hr => h r (List.mem_cons_of_mem _ hr)
    rw [tsum_cons, tsum_cons]
    rcases List.mem_cons.mp hp with e | e
    · subst e
      have := tsum_mono hs hr
      omega
    · have ih := other_mono hs hr e
      have h1 := tp_mono (ws := q.2) (h q List.mem_cons_self) (hs q.1)
      omega

/-- no sum is broken, no value can't be -/
structure At1 (s : Sm) (S : Fam) : Prop where
  ok : s.2 ≤ tsum s.1 S
  can : ∀ p, p ∈ s.1 → ∀ v, v ∈ at' S p.1 → s.2 ≤ tsum s.1 S - tp p.2 (at' S p.1) + p.2.getD v 0
structure Good (n : Nat) (sums : List Sm) (S : Fam) : Prop where
  len : S.length = n
  ne : ∀ c, c < n → at' S c ≠ []
  all : ∀ s, s ∈ sums → At1 s S
/-- the choices that a sum names -/
def Named (n : Nat) (s : Sm) : Prop := ∀ p, p ∈ s.1 → p.1 < n

theorem Good.keeps {n : Nat} {sums : List Sm} {G S : Fam} (g : Good n sums G) (hs : Sub G S) {s : Sm} (h : s ∈ sums) (hn : Named n s) {p : Nat × List Int} (hp : p ∈ s.1) {v : Nat} (hv : v ∈ at' G p.1) :
    s.2 ≤ tsum s.1 S - tp p.2 (at' S p.1) + p.2.getD v 0 := by
  have h1 := (g.all s h).can p hp v hv
  have h2 := other_mono hs (ts := s.1) (fun q hq => g.ne q.1 (hn q hq)) hp
  omega
theorem Good.unbroken {n : Nat} {sums : List Sm} {G S : Fam} (g : Good n sums G) (hs : Sub G S) {s : Sm} (h : s ∈ sums) (hn : Named n s) : s.2 ≤ tsum s.1 S :=
  Int.le_trans (g.all s h).ok (tsum_mono hs fun q hq => g.ne q.1 (hn q hq))

/-- what narrowed is to tell -/
def IsNar (L0 : Fam) (sums : List Sm) : Option Fam → Prop
  | none => ∀ G, Good L0.length sums G → Sub G L0 → False
  | some S => Good L0.length sums S ∧ Sub S L0 ∧ (∀ c, asc (at' S c)) ∧ ∀ G, Good L0.length sums G → Sub G L0 → Sub G S

theorem at_eq {S : Fam} {c : Nat} (h : c < S.length) : S[c] = at' S c := by
  simp [at', List.getD_eq_getElem?_getD, h]
theorem fam_ext {S T : Fam} (hl : S.length = T.length) (h : ∀ c, at' S c = at' T c) : S = T := by
  apply List.ext_getElem hl
  intro c h1 h2
  rw [at_eq h1, at_eq h2, h c]

theorem IsNar.uniq {L0 : Fam} {sums : List Sm} : ∀ {r r' : Option Fam}, IsNar L0 sums r → IsNar L0 sums r' → r = r'
  | none, none, _, _ => rfl
  | none, some S, h, ⟨g, s, _, _⟩ => (h S g s).elim
  | some S, none, ⟨g, s, _, _⟩, h => (h S g s).elim
  | some S, some T, ⟨g1, s1, a1, m1⟩, ⟨g2, s2, a2, m2⟩ => by
    refine congrArg some (fam_ext (g1.len.trans g2.len.symm) fun c => asc_ext (a1 c) (a2 c) fun x => ⟨fun h => m2 S g1 s1 c x h, fun h => m1 T g2 s2 c x h⟩)

/-- handed in again -/
theorem IsNar.again {L0 S : Fam} {sums : List Sm} (h : IsNar L0 sums (some S)) : IsNar S sums (some S) := by
  obtain ⟨g, s, a, m⟩ := h
  refine ⟨?_, Sub.refl S, a, fun G _ h => h⟩
  rw [g.len]
  exact g
/-- with a sum more no value more -/
theorem IsNar.more {L0 S T : Fam} {sums : List Sm} {s : Sm} (h : IsNar L0 sums (some S)) (k : IsNar L0 (sums ++ [s]) (some T)) : Sub T S := by
  obtain ⟨g, s', a, m⟩ := h
  obtain ⟨g2, s2, a2, m2⟩ := k
  exact m T ⟨g2.len, g2.ne, fun t ht => g2.all t (List.mem_append_left _ ht)⟩ s2

/-! ### rows -/
def wt (ts : List (Nat × List Int)) (r : List Nat) : Int := (ts.map fun p => p.2.getD (r.getD p.1 0) 0).sum
def fam (r : List Nat) : Fam := r.map fun v => [v]
theorem at_fam (r : List Nat) (c : Nat) : at' (fam r) c = if c < r.length then [r.getD c 0] else [] := by
  unfold at' fam
  rw [List.getD_eq_getElem?_getD, List.getD_eq_getElem?_getD, List.getElem?_map]
  by_cases h : c < r.length
  · rw [if_pos h, List.getElem?_eq_getElem h]; rfl
  · rw [if_neg h, List.getElem?_eq_none (by omega)]; rfl
theorem tp_one (ws : List Int) (v : Nat) : tp ws [v] = ws.getD v 0 := rfl
theorem tsum_fam {r : List Nat} : ∀ {ts : List (Nat × List Int)}, (∀ p, p ∈ ts → p.1 < r.length) → tsum ts (fam r) = wt ts r
  | [], _ => rfl
  | p :: ts, h => by
    have ih := tsum_fam (r := r) (ts := ts) fun q hq => h q (List.mem_cons_of_mem _ hq)
    rw [tsum_cons, ih, at_fam, if_pos (h p List.mem_cons_self), tp_one]
    unfold wt
    rw [List.map_cons, List.sum_cons]
/-- a row that keeps all sums is a good family -/
theorem good_row {n : Nat} {sums : List Sm} {r : List Nat} (hl : r.length = n) (hn : ∀ s, s ∈ sums → Named n s) (hk : ∀ s, s ∈ sums → s.2 ≤ wt s.1 r) : Good n sums (fam r) := by
  refine ⟨by unfold fam; rw [List.length_map]; exact hl, fun c hc => ?_, fun s hs => ?_⟩
  · rw [at_fam, if_pos (by omega)]
    exact List.cons_ne_nil _ _
  · have e := tsum_fam (r := r) (ts := s.1) fun p hp => by rw [hl]; exact hn s hs p hp
    refine ⟨by rw [e]; exact hk s hs, fun p hp v hv => ?_⟩
    have hc : p.1 < r.length := by rw [hl]; exact hn s hs p hp
    rw [at_fam, if_pos hc] at hv
    have ev : v = r.getD p.1 0 := by simpa using hv
    rw [e, at_fam, if_pos hc, tp_one, ev]
    have := hk s hs
    omega
theorem sub_row {r : List Nat} {S : Fam} (h : ∀ c, c < r.length → r.getD c 0 ∈ at' S c) : Sub (fam r) S := fun c v hv => by
  rw [at_fam] at hv
  by_cases hc : c < r.length
  · rw [if_pos hc] at hv
    have ev : v = r.getD c 0 := by simpa using hv
    rw [ev]
    exact h c hc
  · rw [if_neg hc] at hv
    exact absurd hv List.not_mem_nil
theorem row_in {r : List Nat} {S : Fam} (h : Sub (fam r) S) {c : Nat} (hc : c < r.length) : r.getD c 0 ∈ at' S c := by
  refine h c _ ?_
  rw [at_fam, if_pos hc]
  exact List.mem_singleton.mpr rfl
theorem IsNar.no_row {L0 : Fam} {sums : List Sm} (h : IsNar L0 sums none) {r : List Nat} (hl : r.length = L0.length) (hn : ∀ s, s ∈ sums → Named L0.length s) (hk : ∀ s, s ∈ sums → s.2 ≤ wt s.1 r)
    (hin : ∀ c, c < r.length → r.getD c 0 ∈ at' L0 c) : False := h (fam r) (good_row hl hn hk) (sub_row hin)
theorem IsNar.row {L0 S : Fam} {sums : List Sm} (h : IsNar L0 sums (some S)) {r : List Nat} (hl : r.length = L0.length) (hn : ∀ s, s ∈ sums → Named L0.length s) (hk : ∀ s, s ∈ sums → s.2 ≤ wt s.1 r)
    (hin : ∀ c, c < r.length → r.getD c 0 ∈ at' L0 c) {c : Nat} (hc : c < r.length) : r.getD c 0 ∈ at' S c :=
  row_in (h.2.2.2 (fam r) (good_row hl hn hk) (sub_row hin)) hc

/-! ### taking values out -/
/-- what stands while values are taken out -/
structure Mid (L0 : Fam) (sums : List Sm) (S : Fam) : Prop where
  len : S.length = L0.length
  ne : ∀ c, c < L0.length → at' S c ≠ []
  sub : Sub S L0
  asc : ∀ c, asc (at' S c)
  low : ∀ G, Good L0.length sums G → Sub G L0 → Sub G S
theorem Mid.broken {L0 : Fam} {sums : List Sm} {S : Fam} (m : Mid L0 sums S) {s : Sm} (hs : s ∈ sums) (hn : Named L0.length s) (h : tsum s.1 S < s.2) : IsNar L0 sums none := fun G g hg => by
  have := g.unbroken (m.low G g hg) hs hn
  omega
theorem Mid.done {L0 : Fam} {sums : List Sm} {S : Fam} (m : Mid L0 sums S) (h : ∀ s, s ∈ sums → At1 s S) : IsNar L0 sums (some S) := ⟨⟨m.len, m.ne, h⟩, m.sub, m.asc, m.low⟩
theorem at_set (S : Fam) (c d : Nat) (x : List Nat) : at' (S.set c x) d = if d = c ∧ c < S.length then x else at' S d := by
  unfold at'
  rw [List.getD_eq_getElem?_getD, List.getD_eq_getElem?_getD, List.getElem?_set]
  by_cases h : c = d
  · subst h
    by_cases hc : c < S.length
    · rw [if_pos rfl, if_pos hc, if_pos ⟨rfl, hc⟩]; rfl
    · rw [if_pos rfl, if_neg hc, if_neg (fun h => hc h.2), List.getElem?_eq_none (by omega)]
  · rw [if_neg h, if_neg (fun k => h k.1.symm)]
/-- at a choice the values that can be by a sum that isn't broken are left -/
theorem Mid.take {L0 : Fam} {sums : List Sm} {S : Fam} (m : Mid L0 sums S) {s : Sm} (hs : s ∈ sums) (hn : Named L0.length s) (hb : s.2 ≤ tsum s.1 S) {p : Nat × List Int} (hp : p ∈ s.1) {x : List Nat}
    (ha : K36.asc x) (hx : ∀ v, v ∈ x → v ∈ at' S p.1) (hk : ∀ v, v ∈ at' S p.1 → s.2 ≤ tsum s.1 S - tp p.2 (at' S p.1) + p.2.getD v 0 → v ∈ x) : Mid L0 sums (S.set p.1 x) := by
  have hc : p.1 < L0.length := hn p hp
  have hcS : p.1 < S.length := by rw [m.len]; exact hc
  -- the top stays
  have top : x ≠ [] := by
    have h1 : ((at' S p.1).map fun v => p.2.getD v 0) ≠ [] := fun e => m.ne _ hc (List.map_eq_nil_iff.mp e)
    obtain ⟨v, hv, e⟩ := List.mem_map.mp (mx_mem h1)
    have e' : p.2.getD v 0 = tp p.2 (at' S p.1) := e
    exact List.ne_nil_of_mem (hk v hv (by rw [e']; omega))
  refine ⟨by rw [List.length_set]; exact m.len, fun c hc => ?_, fun c v hv => ?_, fun c => ?_, fun G g hg c v hv => ?_⟩
  · rw [at_set]
    split
    · exact top
    · exact m.ne c hc
  · rw [at_set] at hv
    split at hv
    · rename_i h
      rw [h.1]
      exact m.sub _ _ (hx v hv)
    · exact m.sub c v hv
  · rw [at_set]
    split
    · exact ha
    · exact m.asc c
  · have h1 := m.low G g hg c v hv
    rw [at_set]
    split
    · rename_i h
      rw [h.1] at h1 hv
      exact hk v h1 (g.keeps (m.low G g hg) hs hn hp hv)
    · exact h1
theorem mid_start {L0 : Fam} {sums : List Sm} (hne : ∀ c, c < L0.length → at' L0 c ≠ []) (ha : ∀ c, asc (at' L0 c)) : Mid L0 sums L0 := ⟨rfl, hne, Sub.refl L0, ha, fun _ _ h => h⟩
end K36
end
section
set_option Elab.async false
set_option linter.all false
set_option maxRecDepth 100000
set_option maxHeartbeats 4000000
/-! Own rules: max and min of lists and tuples of ints, enumerate of a tuple, zip of a tuple and a list. -/
namespace K36
open PySem PySem.Spec PyProof.Rows L2
open PySem.W (maxOf minOf max_tuple_datum min_tuple_datum HoldAll)

/-! ### max, min -/
def mn (l : List Int) : Int := -(mx (l.map fun x => -x))
theorem mn_mem {l : List Int} (h : l ≠ []) : mn l ∈ l := by
  have h1 : (l.map fun x => -x) ≠ [] := fun e => h (List.map_eq_nil_iff.mp e)
  obtain ⟨v, hv, e⟩ := List.mem_map.mp (mx_mem h1)
  have e2 : mn l = v := by unfold mn; omega
  rw [e2]; exact hv
theorem mn_le {l : List Int} {y : Int} (h : y ∈ l) : mn l ≤ y := by
  have := le_mx (List.mem_map.mpr ⟨y, h, rfl⟩ : -y ∈ l.map fun x => -x)
  unfold mn; omega
theorem mn_uniq {l : List Int} {m : Int} (h1 : m ∈ l) (h2 : ∀ y, y ∈ l → m ≤ y) : m = mn l := by
  have a := mn_le h1
  have b := h2 _ (mn_mem (List.ne_nil_of_mem h1))
  omega
theorem maxOf_all : ∀ (xs : List Int) (x : Int), maxOf x xs ∈ x :: xs ∧ ∀ y, y ∈ x :: xs → y ≤ maxOf x xs
  | [], x => ⟨List.mem_cons_self, fun y h => by rw [List.mem_singleton.mp h]; exact Int.le_refl x⟩
  | z :: xs, x => by
    have e : maxOf x (z :: xs) = maxOf (if x < z then z else x) xs := by
      unfold maxOf
      rw [List.foldl_cons]
      show List.foldl _ (if decide (x < z) = true then z else x) xs = _
      simp only [decide_eq_true_eq]
    obtain ⟨h1, h2⟩ := maxOf_all xs (if x < z then z else x)
    rw [e]
    have h3 := h2 _ List.mem_cons_self
    refine ⟨?_, fun y hy => ?_⟩
    · rcases List.mem_cons.mp h1 with h | h
      · rw [h]
        by_cases c : x < z
        · rw [if_pos c]; exact List.mem_cons_of_mem _ List.mem_cons_self
        · rw [if_neg c]; exact List.mem_cons_self
      · exact List.mem_cons_of_mem _ (List.mem_cons_of_mem _ h)
    · by_cases c : x < z
      · rw [if_pos c] at h3 h2 ⊢
        rcases List.mem_cons.mp hy with h | h
        · subst h; omega
        · exact h2 y h
      · rw [if_neg c] at h3 h2 ⊢
        rcases List.mem_cons.mp hy with h | h
        · subst h; omega
        · rcases List.mem_cons.mp h with h | h
          · subst h; omega
          · exact h2 y (List.mem_cons_of_mem _ h)
theorem minOf_all : ∀ (xs : List Int) (x : Int), minOf x xs ∈ x :: xs ∧ ∀ y, y ∈ x :: xs → minOf x xs ≤ y
  | [], x => ⟨List.mem_cons_self, fun y h => by rw [List.mem_singleton.mp h]; exact Int.le_refl x⟩
  | z :: xs, x => by
    have e : minOf x (z :: xs) = minOf (if z < x then z else x) xs := by
      unfold minOf
      rw [List.foldl_cons]
      show List.foldl _ (if decide (z < x) = true then z else x) xs = _
      simp only [decide_eq_true_eq]
    obtain ⟨h1, h2⟩ := minOf_all xs (if z < x then z else x)
    rw [e]
    have h3 := h2 _ List.mem_cons_self
    refine ⟨?_, fun y hy => ?_⟩
    · rcases List.mem_cons.mp h1 with h | h
      · rw [h]
        by_cases c : z < x
        · rw [if_pos c]; exact List.mem_cons_of_mem _ List.mem_cons_self
        · rw [if_neg c]; exact List.mem_cons_self
      · exact List.mem_cons_of_mem _ (List.mem_cons_of_mem _ h)
    · by_cases c : z < x
      · rw [if_pos c] at h3 h2 ⊢
        rcases List.mem_cons.mp hy with h | h
        · subst h; omega
        · exact h2 y h
      · rw [if_neg c] at h3 h2 ⊢
        rcases List.mem_cons.mp hy with h | h
        · subst h; omega
        · rcases List.mem_cons.mp h with h | h
          · subst h; omega
          · exact h2 y (List.mem_cons_of_mem _ h)
/-- max(x), min(x) of a list or a tuple of ints -/
def rMx (K : PySem.W.Frag) : List V → Hp → VK → Prop := fun vs H Q => ∃ (a : Addr) (ns : List Int), vs = [V.ref a] ∧ (SqL K H a (ns.map V.int) ∨ SqT K H a (ns.map V.int)) ∧ ns ≠ [] ∧ Q (.int (mx ns)) H
def rMn (K : PySem.W.Frag) : List V → Hp → VK → Prop := fun vs H Q => ∃ (a : Addr) (ns : List Int), vs = [V.ref a] ∧ (SqL K H a (ns.map V.int) ∨ SqT K H a (ns.map V.int)) ∧ ns ≠ [] ∧ Q (.int (mn ns)) H
section
variable {X : Cx}
theorem cr_mx (hc : X.calm = true) (hu : X.A.units + 64 < cLine) : CallR X (.builtin "max") (rMx X.K) := by
  intro pins s σ H vs us Q I r h
  obtain ⟨a, ns, rfl, hs, hne, q⟩ := h
  rcases hs with hs | hs
  · exact cr_max hc pins s σ H _ us Q I r ⟨a, ns, rfl, hs, (List.length_pos_iff.mpr hne), fun m h1 h2 => by rw [mx_uniq h1 h2]; exact q⟩
  · obtain ⟨its, rv, ht, _⟩ := I.tuple hs
    rw [Vals.ref1 r]
    cases ns with
    | nil => exact absurd rfl hne
    | cons n ns =>
      obtain ⟨h1, h2⟩ := maxOf_all ns n
      refine max_tuple_datum (α := Int) (x := n) (xs := ns) (I.ok.hd hc) (show s.heap.IsTuple a its.toArray from ht) (HoldAll.of_ints rv.ints) (by show X.A.units + 1 + 0 < cLine; omega) fun i v h' tk _ hr hk => ?_
      obtain ⟨as, hr⟩ := hr
      cases hr with
      | int _ t => exact ⟨.int _, H, I.kept hk, ⟨t, rfl⟩, by rw [mx_uniq h1 h2]; exact q⟩
theorem cr_mn (hc : X.calm = true) (hu : X.A.units + 64 < cLine) : CallR X (.builtin "min") (rMn X.K) := by
  intro pins s σ H vs us Q I r h
  obtain ⟨a, ns, rfl, hs, hne, q⟩ := h
  rcases hs with hs | hs
  · exact cr_min hc pins s σ H _ us Q I r ⟨a, ns, rfl, hs, (List.length_pos_iff.mpr hne), fun m h1 h2 => by rw [mn_uniq h1 h2]; exact q⟩
  · obtain ⟨its, rv, ht, _⟩ := I.tuple hs
    rw [Vals.ref1 r]
    cases ns with
    | nil => exact absurd rfl hne
    | cons n ns =>
      obtain ⟨h1, h2⟩ := minOf_all ns n
      refine min_tuple_datum (α := Int) (x := n) (xs := ns) (I.ok.hd hc) (show s.heap.IsTuple a its.toArray from ht) (HoldAll.of_ints rv.ints) (by show X.A.units + 1 + 0 < cLine; omega) fun i v h' tk _ hr hk => ?_
      obtain ⟨as, hr⟩ := hr
      cases hr with
      | int _ t => exact ⟨.int _, H, I.kept hk, ⟨t, rfl⟩, by rw [mn_uniq h1 h2]; exact q⟩
end

/-! ### enumerate(tuple) -/
def IteT (K : PySem.W.Frag) (a : Addr) : It where
  go i H := ∃ (xs : List V) (x : V), SqT K H a xs ∧ xs[i]? = some x
  yld i H v H' := ∃ T x, v = .ref T ∧ H T = none ∧ H' = upd H T (.tup [.int (i : Nat), x]) ∧ ∀ xs, SqT K H a xs → xs[i]? = some x
  stop i H := ∃ xs : List V, SqT K H a xs ∧ xs.length = i
theorem turnEnumT {P : Program} {w : World} {K : PySem.W.Frag} {els : List Expr} {k0 : Nat} {ps : Pos} {a e it : Addr} (hne : e ≠ it) (hea : e ≠ a) (hia : a ≠ it) :
    Turn P w K (.Tuple els k0 ps) (IteT K a) [e, it] e (fun i h => (∃ old, IsEnum h e it ((i : Nat) : Int) old) ∧ h.IsTupleIter it a i) where
  mem := List.mem_cons_self
  obj i h st b hb := by
    obtain ⟨⟨old, he⟩, ⟨o, ho, hc, hd⟩⟩ := st
    rcases List.mem_cons.mp hb with z | z
    · rw [z]
      exact ⟨_, he, fun v q => nomatch q⟩
    · rw [List.mem_singleton.mp z]
      exact ⟨o, ho, fun v q => by rw [hd] at q; cases q⟩
  keep i h h' st k := by
    obtain ⟨⟨old, he⟩, hi⟩ := st
    exact ⟨⟨old, k e (by simp) _ he⟩, hi.at fun o q => k it (by simp) o q⟩
  item := by
    intro X hP hw hK hc i pins s σ H E I hf st hg
    subst hP; subst hw; subst hK
    obtain ⟨⟨old, he⟩, hit⟩ := st
    obtain ⟨xs, x, hq, hx⟩ := hg
    obtain ⟨its, rv, pT, hz⟩ := I.tuple hq
    obtain ⟨u, hu, ru⟩ := rv.get hx
    have el : e < s.heap.objs.size := Heap.lt_size he
    have il : it < s.heap.objs.size := by obtain ⟨_, q, _⟩ := hit; exact Heap.lt_size q
    have hlt : i < its.toArray.size := by have := (List.getElem?_eq_some_iff.mp hu).1; simpa using this
    have D := Draws.tuple (prog := X.prog) (w := X.w) (A := X.A.in1) (I.ok.hd hc) it a hia its.toArray
    refine wpAny_pyNext_enum_itemD D he ⟨hit, pT⟩ hlt hne (by simp [hne, hea]) fun y h' tk hy ho hst hT hsz hk => ?_
    have ey : y = u := by
      have hy' : its.toArray[i]? = some y := hy
      have : its[i]? = some y := by simpa using hy'
      rw [hu] at this
      exact (Option.some.inj this).symm
    subst ey
    refine ⟨_, rfl, wpAny_letOwnedTupleGo_enum (s := { s with heap := h', toks := tk + 1 }) ho fun h2 he' sb => ?_⟩
    have hT2 := (sb.2 _ (Nat.ne_of_gt el)).trans hT
    have nw : ObjOk X.prog X.w (upd H s.heap.objs.size (.tup [.int (i : Nat), x])) h2 s.heap.objs.size (.tup [.int (i : Nat), x]) :=
      ⟨by show 2 ≤ sizeLine; decide, [.int i tk, y], .cons ⟨_, rfl⟩ (.cons ru .nil), ⟨_, hT2, rfl, _, rfl⟩⟩
    have J : Inv X pins σ (upd H s.heap.objs.size (.tup [.int (i : Nat), x])) { s with heap := h2, toks := tk + 1 } :=
      I.turnedNew (ch := [e, it]) (fun b ob hb q => (sb.2 b (fun z => hb (by simp [z]))).trans (hk b ob (fun z => hb (by simp [z])) (fun z => hb (by simp [z])) q)) hf (Nat.le_refl _) nw
    refine ⟨.ref s.heap.objs.size, _, J, rfl, ⟨_, x, rfl, I.hok.fresh (Nat.le_refl _), rfl, fun ys hy2 => by rw [I.tuple_inj hy2 hq]; exact hx⟩, ⟨⟨y, ?_⟩, hst.1.at fun o q => (sb.2 it hne.symm).trans q⟩, fun b hb => ?_⟩
    · rw [show ((i + 1 : Nat) : Int) = (i : Int) + 1 by omega]; exact he'
    · have bl : b < s.heap.objs.size := by
        rcases List.mem_cons.mp hb with z | z
        · rw [z]; exact el
        · rw [List.mem_singleton.mp z]; exact il
      rw [upd_ne (Nat.ne_of_lt bl)]
      exact (hf b hb).1
  done := by
    intro X hP hw hK hc i pins s σ H E I hf st hg
    subst hP; subst hw; subst hK
    obtain ⟨⟨old, he⟩, hit⟩ := st
    obtain ⟨xs, hq, hx⟩ := hg
    obtain ⟨its, rv, pT, hz⟩ := I.tuple hq
    obtain ⟨f0, f1, f2, f3, f4, f5⟩ := hf it (by simp)
    have D := Draws.tuple (prog := X.prog) (w := X.w) (A := X.A.in1) (I.ok.hd hc) it a hia its.toArray
    have en : its.toArray.size = i := by rw [List.size_toArray, ← rv.length]; exact hx
    refine wpAny_pyNext_enum_endD D he ⟨by rw [en]; exact hit, pT⟩ fun h' eb => ⟨rfl, I.turned (t' := s.toks) (fun b o hb q => eb b o hb q) f0 f1 f3 f4 f5⟩
  self A i s Q E st h := by
    obtain ⟨⟨_, he⟩, _⟩ := st
    exact wpAny_pyIter_enum he h

theorem meetsEnum1 {v : Value} {o : Obj} {G : Heap → Prop} (B : Begins v o G) :
    Meets (Builtin.«enumerate.__new__» ⟨[.type "enumerate", v], []⟩) (fun _ R s => G s.heap ∧
      R (.ok (.ret (.ref (s.heap.push o).objs.size))) { s with heap := (s.heap.push o).push { cls := .type "enumerate", data := .fields #[.none, .bool false, .ref s.heap.objs.size, rawInt 0, .none, .none] } }) :=
  .of_wp fun prog w A R s h => by
    obtain ⟨hh, gg, dd, kk, oo⟩ := s; obtain ⟨g1, h⟩ := h
    have hsub := sub_enumerate
    have it1 : ∀ {A' : Around} {E : Value → Shared → Prop} {Q : Value → Shared → Prop}, Q (.ref hh.objs.size) ⟨hh.push o, gg, dd, kk, oo⟩ → wpAny (model prog w) A' (pyIter v) Q E ⟨hh, gg, dd, kk, oo⟩ :=
      fun q => B.iter prog w _ _ ⟨hh, gg, dd, kk, oo⟩ _ g1 q
    wp_walk using it1
    refine wpAny_stack_any fun fr => wpAny_pure ?_
    split
    · rename_i c _ _ _ _ _
      by_cases hcc : (c == Value.type "enumerate") = true
      · rw [hcc]; wp_walk using it1
        exact ⟨_, rfl, h⟩
      · rw [show (c == Value.type "enumerate") = false by simpa using hcc]; wp_walk using it1
        exact ⟨_, rfl, h⟩
    · wp_walk using it1
      exact ⟨_, rfl, h⟩
section
variable {prog : Program} {w : World} {A : Around} {E : Value → Shared → Prop} {s : Shared}
theorem callEnum1 {v : Value} {o : Obj} {G : Heap → Prop} {Q : Value → Shared → Prop} (B : Begins v o G) (g1 : G s.heap)
    (h : ∀ h', IsEnum h' (s.heap.objs.size + 1) s.heap.objs.size 0 .none → h'.get? s.heap.objs.size = some o → (∀ b o, s.heap.get? b = some o → h'.get? b = some o) → Q (.ref (s.heap.objs.size + 1)) { s with heap := h' }) :
    wpAny (model prog w) A (call (.type "enumerate") [v]) Q E s := by
  refine callType_new F.called_enumerate (by decide) (F.typeCall_enumerate_1 _) (F.newCall_enumerate_1 _) (fun obj => F.args_object_init_2 obj _) F.entry_enumerate_new (meetsEnum1 B) ⟨g1, ?_⟩
  have hz : (s.heap.push o).objs.size = s.heap.objs.size + 1 := Heap.size_push ..
  rw [hz]
  have he : IsEnum ((s.heap.push o).push { cls := .type "enumerate", data := .fields #[.none, .bool false, .ref s.heap.objs.size, rawInt 0, .none, .none] }) (s.heap.objs.size + 1) s.heap.objs.size 0 .none := by
    rw [← hz]
    exact Heap.get?_push_size _ rfl
  exact ⟨⟨_, he, rfl⟩, h _ he (Heap.get?_push_of_some _ (Heap.get?_push_size _ B.free)) fun b ob q => Heap.get?_push_of_some _ (Heap.get?_push_of_some _ q)⟩
end
def iEnumT (K : PySem.W.Frag) (ta : TA) : TI := fun σ H R => ta σ H fun vs H1 => ∃ a xs, vs = [.ref a] ∧ SqT K H1 a xs ∧ R (IteT K a) H1
theorem pi_enumT {X : Cx} {e : Expr} {ta : TA} {p pos tpos : Pos} {els : List Expr} {k0 : Nat} (hg : Gl X "enumerate") (hm : X.mg "enumerate" = none) (ha : PA X [e] ta) (hs : starEach [e] X.env = [(false, eval e X.env)] := by rfl) :
    PI X (.Tuple els k0 tpos) (.Call (.Name "enumerate" p) [e] [] pos) (iEnumT X.K ta) := by
  refine ⟨fun pins s σ H R I h => Call_ (ld_blt I hg hm boot_enumerate (PyProof.Rows.callWith_type1 (thn (ha.run pos pins s σ H _ I h) fun us s1 ⟨vs, H1, J, r1, q1⟩ => ?_) hs rfl))⟩
  obtain ⟨a, xs, ex, hq, q⟩ := q1
  subst ex
  rw [Vals.ref1 r1]
  obtain ⟨its, rv, pT, hz⟩ := J.tuple hq
  have al : a < s1.heap.objs.size := by obtain ⟨_, ho, _⟩ := id pT; exact Heap.lt_size ho
  refine callEnum1 (begins_tuple a its.toArray) pT fun h' he hit hk => wpAny_pyIter_enum he ?_
  refine ⟨s1.heap.objs.size + 1, [s1.heap.objs.size + 1, s1.heap.objs.size], _, _, H1, rfl, J.kept (t' := s1.toks) hk, turnEnumT (Nat.succ_ne_self _) (fun z => ?_) (Nat.ne_of_lt al), ⟨⟨.none, he⟩, ⟨_, hit, rfl, rfl⟩⟩, fun b hb => ?_, q⟩
  · exact absurd z (Nat.ne_of_gt (Nat.lt_succ_of_lt al))
  · have bl : s1.heap.objs.size ≤ b := by
      rcases List.mem_cons.mp hb with z | z
      · rw [z]; exact Nat.le_add_right _ _
      · rw [List.mem_singleton.mp z]; exact Nat.le_refl _
    exact J.fpOk bl (J.hok.fresh bl)
theorem walk_enumT {K : PySem.W.Frag} {a : Addr} {xs : List V} : Walk (IteT K a) xs.length (fun H => SqT K H a xs) (YPair (fun i => some (.int (i : Nat))) (fun i => xs[i]?)) where
  goes i _ hi q := ⟨xs, xs[i], q, List.getElem?_eq_getElem hi⟩
  stops _ q := ⟨xs, q, rfl⟩
  yields i H v H' _ q y := by
    obtain ⟨T, x, h1, h2, h3, h4⟩ := y
    exact ⟨T, .int (i : Nat), x, h1, h2, h3, rfl, h4 xs q⟩
end K36
end
section
set_option Elab.async false
set_option linter.all false
set_option maxRecDepth 100000
set_option maxHeartbeats 4000000
/-! Own rules: zip of a tuple and a list; repr of nested data, and the calls of defs under which no repr runs. -/
namespace K36
open PySem PySem.Spec PyProof.Rows L2

/-! ### zip(tuple, list), of one length -/
def ItzM (K : PySem.W.Frag) (a b : Addr) : It where
  go i H := ∃ (xs ys : List V) (x y : V), SqT K H a xs ∧ SqL K H b ys ∧ xs[i]? = some x ∧ ys[i]? = some y
  yld i H v H' := ∃ T x y, v = .ref T ∧ H T = none ∧ H' = upd H T (.tup [x, y]) ∧ (∀ xs, SqT K H a xs → xs[i]? = some x) ∧ ∀ ys, SqL K H b ys → ys[i]? = some y
  stop i H := ∃ xs ys : List V, SqT K H a xs ∧ SqL K H b ys ∧ xs.length = i ∧ ys.length = i
theorem five {c z t1 t2 i j : Addr} (h : c ∈ [z, t1, t2, i, j]) : c = z ∨ c = t1 ∨ c = t2 ∨ c = i ∨ c = j := by simpa using h
theorem turnZipM {P : Program} {w : World} {K : PySem.W.Frag} {els : List Expr} {k0 : Nat} {ps : Pos} {a b z t1 t2 i1 i2 : Addr} (S : ZipSep2 z t1 t2 i1 i2 [i1, a] [i2, b]) (ha : a ≠ i1) (hb : b ≠ i2) :
    Turn P w K (.Tuple els k0 ps) (ItzM K a b) [z, t1, t2, i1, i2] z (fun i h => IsZip h z t1 t2 .none ∧ IsTupOf2 h t1 (.ref i1) (.ref i2) ∧ (∃ x y, IsTupOf2 h t2 x y) ∧ h.IsTupleIter i1 a i ∧ h.IsListIter i2 b i) where
  mem := List.mem_cons_self
  obj i h st c hc := by
    obtain ⟨hz, h1, ⟨x, y, h2⟩, ⟨o1, e1, _, d1⟩, ⟨o2, e2, _, d2⟩⟩ := st
    rcases five hc with q | q | q | q | q <;> rw [q]
    · exact ⟨_, hz, fun v q => nomatch q⟩
    · exact ⟨_, h1, fun v q => nomatch q⟩
    · exact ⟨_, h2, fun v q => nomatch q⟩
    · exact ⟨o1, e1, fun v q => by rw [d1] at q; cases q⟩
    · exact ⟨o2, e2, fun v q => by rw [d2] at q; cases q⟩
  keep i h h' st k := by
    obtain ⟨hz, h1, ⟨x, y, h2⟩, h3, h4⟩ := st
    exact ⟨k z (by simp) _ hz, k t1 (by simp) _ h1, ⟨x, y, k t2 (by simp) _ h2⟩, h3.at fun o q => k i1 (by simp) o q, h4.at fun o q => k i2 (by simp) o q⟩
  item := by
    intro X hP hw hK hc i pins s σ H E I hf st hg
    subst hP; subst hw; subst hK
    obtain ⟨hz, h1, ⟨x0, y0, h2⟩, h3, h4⟩ := st
    obtain ⟨xs, ys, x, y, hqx, hqy, hx, hy⟩ := hg
    obtain ⟨its, rv, pT, _⟩ := I.tuple hqx
    obtain ⟨jts, rw', pL, _⟩ := I.list hqy
    obtain ⟨u, hu, ru⟩ := rv.get hx
    obtain ⟨u2, hu2, ru2⟩ := rw'.get hy
    have l1 : i < its.toArray.size := by have := (List.getElem?_eq_some_iff.mp hu).1; simpa using this
    have l2 : i < jts.toArray.size := by have := (List.getElem?_eq_some_iff.mp hu2).1; simpa using this
    have zl : z < s.heap.objs.size := Heap.lt_size hz
    have D1 := Draws.tuple (prog := X.prog) (w := X.w) (A := X.A.in1) (I.ok.hd hc) i1 a ha its.toArray
    have D2 := Draws.list (prog := X.prog) (w := X.w) (A := X.A.in1) (I.ok.hd hc) i2 b hb jts.toArray
    refine wpAny_pyNext_zipD2_item S D1 D2 hz h1 h2 ⟨h3, pT⟩ ⟨h4, pL.isList⟩ l1 l2 fun y1 y2 h' tk p1 p2 hz' h2' s1 s2 hT _ hk => ?_
    have e1 : u = y1 := by
      have q : its[i]? = some y1 := by simpa using (show its.toArray[i]? = some y1 from p1)
      rw [hu] at q
      exact Option.some.inj q
    have e2 : u2 = y2 := by
      have q : jts[i]? = some y2 := by simpa using (show jts.toArray[i]? = some y2 from p2)
      rw [hu2] at q
      exact Option.some.inj q
    subst e1; subst e2
    refine ⟨_, rfl, wpAny_letOwnedTupleGo_zip (s := { s with heap := h', toks := tk }) hz' fun g hzg sb => ?_⟩
    have hT2 := (sb.2 _ (Nat.ne_of_gt zl)).trans hT
    have nw : ObjOk X.prog X.w (upd H s.heap.objs.size (.tup [x, y])) g s.heap.objs.size (.tup [x, y]) :=
      ⟨by show 2 ≤ sizeLine; decide, [u, u2], .cons ru (.cons ru2 .nil), ⟨_, hT2, rfl, _, rfl⟩⟩
    have J : Inv X pins σ (upd H s.heap.objs.size (.tup [x, y])) { s with heap := g, toks := tk } :=
      I.turnedNew (ch := [z, t1, t2, i1, i2]) (fun c o hb q => (sb.2 c (fun q' => hb (by simp [q']))).trans (hk c o (fun q' => hb (by simp [q'])) (fun q' => hb (by simp [q'])) (fun q' => hb (by simp [q'])) (fun q' => hb (by simp [q'])) q)) hf (Nat.le_refl _) nw
    have k1 : g.get? t1 = _ := (sb.2 _ S.TIz).trans (hk _ _ S.TIz S.TITO S.TIi1 S.TIi2 h1)
    refine ⟨.ref s.heap.objs.size, _, J, rfl, ⟨_, x, y, rfl, I.hok.fresh (Nat.le_refl _), rfl, fun l hl => by rw [I.tuple_inj hl hqx]; exact hx, fun l hl => by rw [I.list_inj hl hqy]; exact hy⟩, ⟨hzg, k1, ⟨u, u2, (sb.2 _ S.TOz).trans h2'⟩, ?_, ?_⟩, fun c hcm => ?_⟩
    · exact s1.1.at fun o q => (sb.2 _ S.zi1.symm).trans q
    · exact s2.1.at fun o q => (sb.2 _ S.zi2.symm).trans q
    · have cl : c < s.heap.objs.size := by
        rcases five hcm with q | q | q | q | q <;> rw [q]
        · exact zl
        · exact Heap.lt_size h1
        · exact Heap.lt_size h2
        · obtain ⟨_, e, _⟩ := h3; exact Heap.lt_size e
        · obtain ⟨_, e, _⟩ := h4; exact Heap.lt_size e
      rw [upd_ne (Nat.ne_of_lt cl)]
      exact (hf c hcm).1
  done := by
    intro X hP hw hK hc i pins s σ H E I hf st hg
    subst hP; subst hw; subst hK
    obtain ⟨hz, h1, ⟨x0, y0, h2⟩, h3, h4⟩ := st
    obtain ⟨xs, ys, hqx, hqy, n1, n2⟩ := hg
    obtain ⟨its, rv, pT, _⟩ := I.tuple hqx
    obtain ⟨jts, rw', pL, _⟩ := I.list hqy
    have D1 := Draws.tuple (prog := X.prog) (w := X.w) (A := X.A.in1) (I.ok.hd hc) i1 a ha its.toArray
    have D2 := Draws.list (prog := X.prog) (w := X.w) (A := X.A.in1) (I.ok.hd hc) i2 b hb jts.toArray
    have e1 : i = its.toArray.size := by rw [List.size_toArray, ← rv.length]; exact n1.symm
    have e2 : i = jts.toArray.size := by rw [List.size_toArray, ← rw'.length]; exact n2.symm
    exact wpAny_pyNext_zipD2_end S D1 D2 hz h1 h2 ⟨h3, pT⟩ ⟨h4, pL.isList⟩ (Nat.le_of_eq e1) (Nat.le_of_eq e2) (.inl e1) fun h' tk hk => ⟨rfl, I.turnedL (t' := tk) (ch := [z, t1, t2, i1, i2]) (fun c o hb q =>
      hk c o (fun q' => hb (by simp [q'])) (fun q' => hb (by simp [q'])) (fun q' => hb (by simp [q'])) (fun q' => hb (by simp [q'])) q) hf⟩
  self A i s Q E st h := wpAny_pyIter_zip st.1 h
def iZipM (K : PySem.W.Frag) (ta : TA) : TI := fun σ H R => ta σ H fun vs H1 => ∃ a b xs ys, vs = [.ref a, .ref b] ∧ SqT K H1 a xs ∧ SqL K H1 b ys ∧ R (ItzM K a b) H1
theorem pi_zipM {X : Cx} {e e2 : Expr} {ta : TA} {p pos tpos : Pos} {els : List Expr} {k0 : Nat} (hg : Gl X "zip") (hm : X.mg "zip" = none) (ha : PA X [e, e2] ta)
    (hs : starEach [e, e2] X.env = (false, eval e X.env) :: starEach [e2] X.env := by rfl) (hpl : (backTo pos (starEach [e2] X.env)).any (·.1) = false := by rfl) :
    PI X (.Tuple els k0 tpos) (.Call (.Name "zip" p) [e, e2] [] pos) (iZipM X.K ta) := by
  refine ⟨fun pins s σ H R I h => Call_ (ld_blt I hg hm PyProof.Rows.boot_zip (PyProof.Rows.callWith_type1 (thn (ha.run pos pins s σ H _ I h) fun us s1 ⟨vs, H1, J, r1, q1⟩ => ?_) hs hpl))⟩
  obtain ⟨a, b, xs, ys, ex, hqx, hqy, q⟩ := q1
  subst ex
  cases r1 with
  | cons r rr => cases rr with
    | cons r' rr =>
      cases rr; cases r; cases r'
      obtain ⟨its, rv, pT, _⟩ := J.tuple hqx
      obtain ⟨jts, rw', pL, _⟩ := J.list hqy
      have al : a < s1.heap.objs.size := by obtain ⟨_, ho, _⟩ := id pT; exact Heap.lt_size ho
      have bl : b < s1.heap.objs.size := pL.lt
      refine zip_begins2 (begins_tuple a its.toArray) (begins_list b jts.toArray) pT pL.isList fun h' hz h1 h2 g1 g2 _ hk => wpAny_pyIter_zip hz ?_
      refine ⟨s1.heap.objs.size + 4, [s1.heap.objs.size + 4, s1.heap.objs.size + 2, s1.heap.objs.size + 3, s1.heap.objs.size, s1.heap.objs.size + 1], _, _, H1, rfl, J.kept (t' := s1.toks) hk,
        turnZipM (zip_sep2 (fun c hc => by rw [List.mem_singleton.mp hc]; exact al) (fun c hc => by rw [List.mem_singleton.mp hc]; exact bl)) (Nat.ne_of_lt al) (Nat.ne_of_lt (Nat.lt_succ_of_lt bl)),
        ⟨hz, h1, ⟨_, _, h2⟩, ⟨_, g1, rfl, rfl⟩, ⟨_, g2, rfl, rfl⟩⟩, fun c hc => ?_, q⟩
      have le : s1.heap.objs.size ≤ c := by
        rcases five hc with q | q | q | q | q <;> rw [q]
        · exact Nat.le_add_right _ _
        · exact Nat.le_add_right _ _
        · exact Nat.le_add_right _ _
        · exact Nat.le_refl _
        · exact Nat.le_add_right _ _
      exact J.fpOk le (J.hok.fresh le)
theorem walk_zipM {K : PySem.W.Frag} {a b : Addr} {xs ys : List V} (hl : xs.length = ys.length) : Walk (ItzM K a b) xs.length (fun H => SqT K H a xs ∧ SqL K H b ys) (YPair (fun i => xs[i]?) (fun i => ys[i]?)) where
  goes i _ hi q := ⟨xs, ys, xs[i], ys[i], q.1, q.2, List.getElem?_eq_getElem hi, List.getElem?_eq_getElem (hl ▸ hi)⟩
  stops _ q := ⟨xs, ys, q.1, q.2, rfl, hl.symm⟩
  yields i H v H' _ q y := by
    obtain ⟨T, x, z, h1, h2, h3, h4, h5⟩ := y
    exact ⟨T, x, z, h1, h2, h3, h4 xs q.1, h5 ys q.2⟩
theorem walk_zipT {K : PySem.W.Frag} {a b : Addr} {xs ys : List V} {n : Nat} (hn : n = min xs.length ys.length) : Walk (RZ.ItzT K a b) n (fun H => SqT K H a xs ∧ SqT K H b ys) (YPair (fun i => xs[i]?) (fun i => ys[i]?)) := by
  subst hn
  refine ⟨fun i _ hi q => ?_, fun _ q => ⟨xs, ys, q.1, q.2, by omega⟩, fun i H v H' _ q y => ?_⟩
  · have h1 : i < xs.length := by omega
    have h2 : i < ys.length := by omega
    exact ⟨xs, ys, xs[i], ys[i], q.1, q.2, List.getElem?_eq_getElem h1, List.getElem?_eq_getElem h2⟩
  · obtain ⟨T, x, z, h1, h2, h3, h4, h5⟩ := y
    exact ⟨T, x, z, h1, h2, h3, h4 xs q.1, h5 ys q.2⟩

/-! ### repr of nested data -/
/-- what repr tells -/
def rRep (K : PySem.W.Frag) : List V → Hp → VK → Prop := fun vs H Q => ∃ (x : V) (d : PyData), vs = [x] ∧ Dp K H x d ∧ d.showable = true ∧ d.hasDict = false ∧ d.depth ≤ 8 ∧ d.shown.length ≤ sizeLine ∧ (d = .none ∨ ∃ a, x = .ref a) ∧ Q (.str d.shown) H
theorem cr_repr {X : Cx} (hg : X.A.guards = some []) (hu : X.A.units + 64 < cLine) : CallR X (.builtin "repr") (rRep X.K) := by
  intro pins s σ H vs us Q I r h
  obtain ⟨x, d, rfl, hd, hs, hn, hp, hz, hx, q⟩ := h
  cases r with
  | cons r rr =>
    cases rr
    rename_i u
    rcases hx with e | ⟨a, e⟩
    · subst e
      cases hd
      cases r
      refine PySem.P.repr_of_none ⟨.str (PyData.none).shown, H, I.tok _, ⟨s.toks, by rw [PyData.shown_none]⟩, q⟩
    · subst e
      cases r
      obtain ⟨as, hr⟩ := Dp.reads I d _ _ hd rfl
      exact repr_of_reads' hr hs (PyData.noDict_hsm hn) hg (by omega) (fun _ _ e => e) (fun h' u tk hk => ⟨.str d.shown, H, I.kept (t' := tk) hk, ⟨u, rfl⟩, q⟩) hz

/-! ### defs that are called where no repr runs -/
/-- as FnOk, nothing raised, where no repr is under way -/
structure FnG (P : Program) (w : World) (K : PySem.W.Frag) (mg : Str → Option Value) (base : Heap) (k : Nat) (f : Addr) (fd : FuncData) (ps : List Str) (sp : Sp) : Prop where
  len : ∀ vs H Q E, sp vs H Q E → vs.length = ps.length
  run : ∀ (A : Around) (outer : List Env) (s : Shared) (H : Hp) (args : Args) (us : List Value) (vs : List V) (Q : VK) (E : XK), Room k A → A.guards = some [] → Env0 P w K mg base A outer s H → BindsTo s fd args (ps.zip us) → Vals vs us → sp vs H Q E →
    codeAny (model P w) A (.call (.ref f) args) (CR CX0 outer P w H s Q E) s
section
variable {P : Program} {w : World} {K : PySem.W.Frag} {mg : Str → Option Value} {base : Heap}
theorem FnOk.g {k : Nat} {f : Addr} {fd : FuncData} {ps : List Str} {sp : Sp} (F : FnOk P w K mg base CX0 k f fd ps sp) : FnG P w K mg base k f fd ps sp :=
  ⟨F.len, fun A outer s H args us vs Q E hr _ => F.run A outer s H args us vs Q E hr⟩
/-- the rule for a def, by its body -/
theorem Fun.okG {x qual : Str} {st : Stmt} {f : Addr} {fd : FuncData} {N ps : List Str} {k : Nat} {sp : Sp} (F : Fun K x qual st f fd) (S : FnScope N ps (defScope st)) (len : ∀ vs H Q E, sp vs H Q E → vs.length = ps.length)
    (body : ∀ (cdv : Value) (A : Around) (outer : List Env) (s : Shared) (H : Hp) (vs : List V) (Q : VK) (E : XK), Room k (A.deeper (envOfC qual (defScope st) s.heap.objs.size f cdv)) → A.guards = some [] → sp vs H Q E →
      ∃ t, PSs (cxOf CX0 P w K mg base N qual (defScope st) f cdv A outer s H E).nox (defBody st) t ∧ t { nx := fun _ H' => Q .non H', rt := Q } (start N vs) H) : FnG P w K mg base (k + 1) f fd ps sp := by
  obtain ⟨oc, od, kV, doc, pm, an, cdv, ct, osl, rfl, lk, hcd⟩ := F.ex
  refine ⟨len, fun A outer s H args us vs Q E hr hg e0 hb rv hsp => ?_⟩
  have KX : K.In s.heap := e0.mod.kin.keeps fun b o e => (e0.bs b o e).1
  have hlim : s.heap.NoLimit := e0.mod.nolimit.keeps fun b o e => (e0.bs b o e).1
  have hkd : ∀ y ∈ ps.zip us, (defScope st).names.lookup y.1 = some .local ∨ ((defScope st).names.lookup y.1 = some .cell ∧ ((cellsFrom (s.heap.objs.size + 1) (defScope st).names []).lookup y.1).isSome = true) := by
    intro y hy
    rcases S.par y.1 (List.of_mem_zip (a := y.1) (b := y.2) hy).1 with q | q
    · exact .inl q
    · exact .inr ⟨q, PySem.W.cellsFrom_some _ _ _ (.inl q)⟩
  refine codeAny_call_function hr.depth (KX _ _ lk) rfl S.co S.gen rfl (PySem.W.codeRec_of KX hcd) (hb _ _ _ _ (wpAny_newFunctionEnv_cells S.kind hkd fun env he s1 x => ?_))
  subst he
  refine ⟨hlim.keeps x.toInCall.keep, codeAny_func ?_⟩
  obtain ⟨t, ht, hq⟩ := body cdv A outer s H vs Q E (hr.deeper _) hg hsp
  have I := inv_start (CX := CX0) (E := E) S hr.hd e0 (len _ _ _ _ hsp) rv x
  refine wpAny_mono (ht.nox.run [] s1 (start N vs) H _ I hq) (fun fl s' hs => ?_) fun e s' hs => hs
  cases fl with
  | ret u =>
    obtain ⟨v, σ', H', J, ru, q⟩ := hs
    exact ⟨v, H', J.os, J.bare, J.base, J.hok, ru, q⟩
  | next =>
    obtain ⟨σ', H', J, q⟩ := hs
    exact ⟨.non, H', J.os, J.bare, J.base, J.hok, rfl, q⟩
  | brk =>
    obtain ⟨σ', H', J, q⟩ := hs
    exact q.elim
  | cont =>
    obtain ⟨σ', H', J, q⟩ := hs
    exact q.elim
end
section
variable {X : Cx} {k : Nat} {f : Addr} {fd : FuncData} {ps : List Str} {sp : Sp} {x : Str} {p pos : Pos} {e : Expr} {es : List Expr} {t : TA}
theorem run_fnG {pins : List (Addr × Obj)} {σ : L2.St} {H : Hp} {s : Shared} {Q : VK} {us : List Value} {vs : List V} (F : FnG X.prog X.w X.K X.mg X.base k f fd ps sp) (hr : Room k X.A) (hg : X.A.guards = some []) (hb : Binds X.K fd ps [])
    (I : Inv X pins σ H s) (r : Vals vs us) (h : sp vs H Q E0) : wpAny (model X.prog X.w) X.A (call (.ref f) us) (EP X pins σ Q) X.xe s := by
  have hl : us.length = ps.length := r.length.symm.trans (F.len _ _ _ _ h)
  have hb' := hb s us I.kIn (by rw [List.append_nil]; exact hl)
  rw [List.append_nil] at hb'
  refine wpAny_call (codeAny_mono (F.run X.A X.stack s H ⟨us, []⟩ us vs Q E0 hr hg I.env0 hb' r h) fun z s' hq => ?_)
  cases z with
  | error e => exact False.elim hq
  | ok fl => cases fl with
    | ret u => exact I.after hq
    | next => exact False.elim hq
    | brk => exact False.elim hq
    | cont => exact False.elim hq
/-- f(e, ..) -/
theorem pe_callG (F : FnG X.prog X.w X.K X.mg X.base k f fd ps sp) (hr : Room k X.A) (hgd : X.A.guards = some []) (hg : Gl X x) (hm : X.mg x = some (.ref f)) (hk : PySem.W.keepIn X.K (.ref f) = true) (hb : Binds X.K fd ps [])
    (ha : PA X (e :: es) t) (hdb : (x == ("__debug__" : Str)) = false := by decide) (he : starEach (e :: es) X.env = (false, eval e X.env) :: starEach es X.env := by rfl) (hpl : (backTo pos (starEach es X.env)).any (·.1) = false := by rfl) :
    PE X (.Call (.Name x p) (e :: es) [] pos) (tCall sp [] E0 t) :=
  ⟨fun pins s σ H Q I h => wpAny_Call_Name_kw (ld_glob I hg hm (PySem.W.callWith_K (h₀ := X.base) I.ok.mod.kin hk (thn (ha.run pos pins s σ H _ I h) fun us s1 ⟨vs, H1, J, r, q⟩ =>
    ⟨J.kIn, run_fnG F hr hgd hb J r (by have z : sp (vs ++ []) H1 Q E0 := q; rw [List.append_nil] at z; exact z)⟩) he hpl) hdb)⟩
/-- f() -/
theorem pe_call0G (F : FnG X.prog X.w X.K X.mg X.base k f fd ps sp) (hr : Room k X.A) (hgd : X.A.guards = some []) (hg : Gl X x) (hm : X.mg x = some (.ref f)) (hk : PySem.W.keepIn X.K (.ref f) = true) (hb : Binds X.K fd ps [])
    (hdb : (x == ("__debug__" : Str)) = false := by decide) : PE X (.Call (.Name x p) [] [] pos) (tCall sp [] E0 tNil) :=
  ⟨fun pins s σ H Q I h => wpAny_Call_Name_kw (ld_glob I hg hm (PySem.W.callWith_K0 I.kIn hk (run_fnG (us := []) F hr hgd hb I .nil h)) hdb)⟩
end
end K36
end
section
set_option Elab.async false
set_option linter.all false
set_option maxRecDepth 100000
set_option maxHeartbeats 4000000
/-! Own rule: list(enumerate(e)), e a tuple. -/
namespace K36
open PySem PySem.Spec PyProof.Rows L2

theorem enum_nolen : typeLookup (.type "enumerate") "__len__" = pure none := am_miss_of_fast (by decide +kernel)
theorem enum_nohint : typeLookup (.type "enumerate") "__length_hint__" = pure none := am_miss_of_fast (by decide +kernel)
section
variable {prog : Program} {w : World} {A : Around} {E : Value → Shared → Prop} {s : Shared}
/-- next of an enumerate whose last tuple is still there -/
theorem enumHeldNext {e it T : Addr} {fp : List Addr} {n i : Nat} {P : Nat → Value → Prop} {St : Nat → Heap → Prop} {old : Value} {f : Bool} {oT : Obj} {Q : Value → Shared → Prop}
    (D : Draws prog w A it fp n P St) (he : IsEnumHeld s.heap e it i old T f) (hT : s.heap.get? T = some oT) (hTe : T ≠ e) (hTi : T ≠ it) (hst : St i s.heap) (hlt : i < n) (hne : e ≠ it) (hef : e ∉ fp)
    (hQ : ∀ x h' tk, P i x → IsEnumHeld h' e it ((i : Int) + 1) old T true → St (i + 1) h' → h'.get? s.heap.objs.size = some { cls := .type "tuple", data := .seq #[.int i tk, x] } →
      (∀ b o, b ≠ e → b ≠ it → s.heap.get? b = some o → h'.get? b = some o) → Q (.ref s.heap.objs.size) { s with heap := h', toks := tk + 1 }) :
    wpAny (model prog w) A (Builtin.«enumerate.__next__» ⟨[.ref e], []⟩) (fun fin s' => ∃ v, fin = .done (.ret v) ∧ Q v s') E s := by
  obtain ⟨h0, gg, dd, k0, oo⟩ := s
  show wpAny _ _ (field (.ref e) 2 >>= _) _ _ _
  refine wpAny_bind (wpAny_field he rfl (x := .ref it) rfl (wpAny_bind (D.item i _ _ _ hlt hst fun x h1 tk hx st1 hs1 => ?_)))
  have sb1 : Heap.SameBut it h0 h1 := hs1
  have he1 : IsEnumHeld h1 e it i old T f := (sb1.2 e hne).trans he
  show wpAny _ _ (field (.ref e) 3 >>= _) _ _ ⟨h1, gg, dd, tk, oo⟩
  refine wpAny_bind (wpAny_field he1 rfl (x := rawInt i) rfl ?_)
  show wpAny _ _ (field (.ref e) 4 >>= _) _ _ ⟨h1, gg, dd, tk, oo⟩
  refine wpAny_bind (wpAny_field he1 rfl (x := .none) rfl ?_)
  show wpAny _ _ (mkInt i >>= _) _ _ ⟨h1, gg, dd, tk, oo⟩
  refine wpAny_bind (wpAny_mkInt ?_)
  show wpAny _ _ (setField (.ref e) 3 (rawInt ((i : Int) + 1)) >>= _) _ _ ⟨h1, gg, dd, tk + 1, oo⟩
  refine wpAny_bind (wpAny_setField_rec he1 (by simp) fun h2 q2 hs2 => ?_)
  have sb2 : Heap.SameBut e h1 h2 := hs2
  have he2 : IsEnumHeld h2 e it ((i : Int) + 1) old T f := q2
  show wpAny _ _ (setField (.ref e) 4 .none >>= _) _ _ ⟨h2, gg, dd, tk + 1, oo⟩
  refine wpAny_bind (wpAny_setField_rec he2 (by simp) fun h3 q3 hs3 => ?_)
  have sb3 : Heap.SameBut e h2 h3 := hs3
  have he3 : IsEnumHeld h3 e it ((i : Int) + 1) old T f := q3
  show wpAny _ _ (newTuple [.int i tk, x] >>= _) _ _ ⟨h3, gg, dd, tk + 1, oo⟩
  refine wpAny_bind (wpAny_newTuple ?_)
  have sz : h3.objs.size = h0.objs.size := by rw [sb3.1, sb2.1, sb1.1]
  have el : e < h0.objs.size := Heap.lt_size he
  have he4 : IsEnumHeld (h3.push { cls := .type "tuple", data := .seq #[.int i tk, x] }) e it ((i : Int) + 1) old T f := Heap.get?_push_of_some _ he3
  have t4 := Heap.get?_push_size h3 (o := { cls := .type "tuple", data := .seq #[.int i tk, x] }) rfl
  have k4 : ∀ b o, b ≠ e → b ≠ it → h0.get? b = some o → (h3.push { cls := .type "tuple", data := .seq #[.int i tk, x] }).get? b = some o := fun b o n1 n2 q =>
    Heap.get?_push_of_some _ (sb3.extBut b o n1 (sb2.extBut b o n1 (sb1.extBut b o n2 q)))
  have st4 : St (i + 1) (h3.push { cls := .type "tuple", data := .seq #[.int i tk, x] }) := D.frame _ _ _ st1 fun b hb o q =>
    have n1 : b ≠ e := fun z => hef (z ▸ hb)
    Heap.get?_push_of_some _ (sb3.extBut b o n1 (sb2.extBut b o n1 q))
  rw [sz] at t4
  generalize h3.push { cls := .type "tuple", data := .seq #[.int i tk, x] } = h4 at he4 t4 k4 st4
  show wpAny _ _ (Builtin.SmallTypes.ownedTupleIsFree (.ref e) >>= _) _ _ ⟨h4, gg, dd, tk + 1, oo⟩
  rw [sz]
  refine wpAny_bind (wpAny_tupleHeld_enum (s := ⟨h4, gg, dd, tk + 1, oo⟩) he4 (k4 T oT hTe hTi hT) fun h5 he5 hs5 => ?_)
  have sb5 : Heap.SameBut e h4 h5 := hs5
  simp only [Bool.false_eq_true, if_false]
  exact wpAny_pure ⟨_, rfl, hQ x h5 tk hx he5 (D.frame _ _ _ st4 fun b hb o q => sb5.extBut b o (fun z => hef (z ▸ hb)) q) (sb5.extBut _ _ (Nat.ne_of_gt el) t4) fun b o n1 n2 q => sb5.extBut b o n1 (k4 b o n1 n2 q)⟩
/-- an enumerate, its last tuple free or held by the list at S -/
def EnS (h : Heap) (e it S : Addr) (i : Nat) : Prop := (∃ old, IsEnum h e it ((i : Nat) : Int) old) ∨ ∃ old T f oT, IsEnumHeld h e it ((i : Nat) : Int) old T f ∧ h.get? T = some oT ∧ T ≠ e ∧ T ≠ it ∧ T ≠ S
theorem EnS.there {h : Heap} {e it S : Addr} {i : Nat} (x : EnS h e it S i) : ∃ o, h.get? e = some o ∧ o.cls = .type "enumerate" := by
  rcases x with ⟨_, q⟩ | ⟨_, _, _, _, q, _⟩
  · exact ⟨_, q, rfl⟩
  · exact ⟨_, q, rfl⟩
theorem EnS.keep {h h' : Heap} {e it S : Addr} {i : Nat} (x : EnS h e it S i) (k : ∀ b o, b ≠ S → h.get? b = some o → h'.get? b = some o) (n : e ≠ S) : EnS h' e it S i := by
  rcases x with ⟨o, q⟩ | ⟨o, T, f, oT, q, r, n1, n2, n3⟩
  · exact .inl ⟨o, k _ _ n q⟩
  · exact .inr ⟨o, T, f, oT, k _ _ n q, k _ _ n3 r, n1, n2, n3⟩
theorem enNext {e it S : Addr} {fp : List Addr} {n i : Nat} {P : Nat → Value → Prop} {St : Nat → Heap → Prop} {Q : Option Value → Shared → Prop}
    (D : Draws prog w A.in1 it fp n P St) (he : EnS s.heap e it S i) (hst : St i s.heap) (hlt : i < n) (hne : e ≠ it) (hef : e ∉ fp) (hil : it < s.heap.objs.size) (hS : S < s.heap.objs.size)
    (hQ : ∀ x h' tk t, P i x → EnS h' e it S (i + 1) → St (i + 1) h' → h'.get? s.heap.objs.size = some { cls := .type "tuple", data := .seq #[.int i t, x] } →
      (∀ b o, b ≠ e → b ≠ it → s.heap.get? b = some o → h'.get? b = some o) → Q (some (.ref s.heap.objs.size)) { s with heap := h', toks := tk }) :
    wpAny (model prog w) A (pyNext (.ref e)) Q E s := by
  have ei : ((i + 1 : Nat) : Int) = (i : Int) + 1 := by omega
  rcases he with ⟨old, q⟩ | ⟨old, T, f, oT, q, r, n1, n2, n3⟩
  · refine wpAny_pyNext_enum_itemD D q hst hlt hne hef fun x h' tk hx ho hs' hT _ hk => hQ x h' (tk + 1) tk hx (.inr ⟨x, s.heap.objs.size, false, _, ?_, hT, Nat.ne_of_gt (Heap.lt_size q), Nat.ne_of_gt hil, Nat.ne_of_gt hS⟩) hs' hT hk
    rw [ei]; exact ho
  · have hy : s.TypeIs (.ref e) "enumerate" := ⟨_, q, rfl⟩
    unfold pyNext
    refine wpAny_bind (wpAny_attempt (wpAny_callSpecial?_slot (name := Str.ofString "__next__") hy F.slot_enumerate_next (wpAny_call_entry F.slot_enumerate_next hy F.entry_enumerate_next
      (enumHeldNext D q r n1 n2 hst hlt hne hef fun x h' tk hx ho hs' hT hk => wpAny_pure (hQ x h' (tk + 1) tk hx (.inr ⟨old, T, true, oT, by rw [ei]; exact ho, hk _ _ n1 n2 r, n1, n2, n3⟩) hs' hT hk)) (F.args_enumerate_next_1 _))))
theorem enEnd {e it S : Addr} {fp : List Addr} {n i : Nat} {P : Nat → Value → Prop} {St : Nat → Heap → Prop} {Q : Option Value → Shared → Prop}
    (D : Draws prog w A.in1 it fp n P St) (he : EnS s.heap e it S i) (hst : St n s.heap) (hQ : ∀ h', Heap.ExtBut it s.heap h' → Q none { s with heap := h' }) : wpAny (model prog w) A (pyNext (.ref e)) Q E s := by
  rcases he with ⟨old, q⟩ | ⟨old, T, f, oT, q, r, n1, n2, n3⟩
  · exact wpAny_pyNext_enum_endD D q hst hQ
  · have hy : s.TypeIs (.ref e) "enumerate" := ⟨_, q, rfl⟩
    unfold pyNext
    refine wpAny_bind (wpAny_attempt (wpAny_callSpecial?_slot (name := Str.ofString "__next__") hy F.slot_enumerate_next (wpAny_call_entry F.slot_enumerate_next hy F.entry_enumerate_next ?_ (F.args_enumerate_next_1 _))))
    show wpAny _ _ (field (.ref e) 2 >>= _) _ _ _
    refine wpAny_bind (wpAny_field q rfl (x := .ref it) rfl (wpAny_bind (D.done _ _ _ hst fun h' x k1 hx => ?_)))
    obtain ⟨o, ho, hc⟩ := hx
    exact wpAny_bind (wpAny_isInstance (T := "StopIteration") (b := true) ⟨o, ho, hc⟩ isSubtype_stop (wpAny_pure (hQ _ k1)))

/-- the tuples made so far, at rising addresses behind S -/
structure Made (its : Array Value) (S : Addr) (h : Heap) (as : List Addr) : Prop where
  rise : as.Pairwise (· < ·)
  above : ∀ a ∈ as, S < a
  items : ∀ (j : Nat) (a : Addr), as[j]? = some a → ∃ t v, its[j]? = some v ∧ h.get? a = some { cls := .type "tuple", data := .seq #[.int j t, v] }
theorem Made.lt {its : Array Value} {S : Addr} {h : Heap} {as : List Addr} (g : Made its S h as) {a : Addr} (ha : a ∈ as) : a < h.objs.size := by
  obtain ⟨j, hj⟩ := List.mem_iff_getElem?.mp ha
  obtain ⟨_, _, _, q⟩ := g.items j a hj
  exact Heap.lt_size q
variable {R : Result → Shared → Prop}
theorem leLoop {S e it a : Addr} {its : Array Value} (hh : A.handled = none) (eS : e < S) (iS : it < S) (aS : a < S) (hne : e ≠ it) (hea : e ≠ a) (hia : a ≠ it) (hn : its.size ≤ sizeLine) (res : Value) {g : Heap}
    (hR : ∀ h' tk acc c as, (∀ b o, b ≠ S → b ≠ e → b ≠ it → g.get? b = some o → h'.get? b = some o) → h'.get? S = some { cls := .type "list", dict := none, data := .seq acc c, slots := #[] } → as.length = its.size → Made its S h' as →
      acc.toList = as.map Value.ref → R (.ok (.ret res)) { s with heap := h', toks := tk }) :
    ∀ (k i : Nat) (h : Heap) (tk c : Nat) (acc : Array Value) (as : List Addr), its.size - i = k → i ≤ its.size → EnS h e it S i → (h.IsTupleIter it a i ∧ h.IsTuple a its) → (∀ b o, b ≠ S → b ≠ e → b ≠ it → g.get? b = some o → h.get? b = some o) →
      h.get? S = some { cls := .type "list", dict := none, data := .seq acc c, slots := #[] } → acc.toList = as.map Value.ref → as.length = i → Made its S h as →
      codeAny (model prog w) A (.builtin "list.extend.loop" ⟨[.ref S, .ref e, res], []⟩) R { s with heap := h, toks := tk } := by
  intro k
  have D := Draws.tuple (prog := prog) (w := w) (A := A.in1.in1) hh it a hia its
  have hef : e ∉ [it, a] := by simp [hne, hea]
  induction k with
  | zero =>
    intro i h tk c acc as hk hi hen hst kp hS hacc hal G
    have ein : i = its.size := by omega
    refine codeAny_builtin PySem.F.entry_extend_loop ?_
    rw [Around.under_plainId PySem.F.plain_extend_loop _]
    refine wpAny_bind (m := pyNext (.ref e)) (enEnd (A := A.in1) (s := { s with heap := h, toks := tk }) D hen (ein ▸ hst) fun h' hx => wpAny_pure ?_)
    refine hR h' tk acc c as (fun b o n1 n2 n3 q => hx b o n3 (kp b o n1 n2 n3 q)) (hx S _ (Nat.ne_of_gt iS) hS) (by omega) ⟨G.rise, G.above, fun j b hj => ?_⟩ hacc
    obtain ⟨t, v, q1, q2⟩ := G.items j b hj
    exact ⟨t, v, q1, hx b _ (Nat.ne_of_gt (Nat.lt_trans iS (G.above b (List.mem_of_getElem? hj)))) q2⟩
  | succ k ih =>
    intro i h tk c acc as hk hi hen hst kp hS hacc hal G
    have hlt : i < its.size := by omega
    have asz : acc.size = i := by rw [← Array.length_toList, hacc, List.length_map, hal]
    have Sl : S < h.objs.size := Heap.lt_size hS
    refine codeAny_builtin PySem.F.entry_extend_loop ?_
    rw [Around.under_plainId PySem.F.plain_extend_loop _]
    refine wpAny_bind (m := pyNext (.ref e)) (enNext (A := A.in1) (s := { s with heap := h, toks := tk }) (S := S) D hen hst hlt hne hef (Nat.lt_trans iS Sl) Sl fun x h' tk2 t hx hen' hst' hT hkp => ?_)
    have hS' := hkp S _ (Nat.ne_of_gt eS) (Nat.ne_of_gt iS) hS
    have up : ∀ b o, b ≠ S → h'.get? b = some o → (h'.update S (Obj.mapSeq (·.push (Value.ref h.objs.size)))).get? b = some o := fun b o hb q => (Heap.get?_update_other _ _ (Ne.symm hb)).trans q
    refine wpAny_bind (m := updateSeq S (·.push (Value.ref h.objs.size))) ?_
    refine wpAny_updateSeq hS' rfl (wpAny_pure ⟨plainId_quiet PySem.F.plain_extend_loop _, ih (i + 1) _ tk2 _ (acc.push (Value.ref h.objs.size)) (as ++ [h.objs.size]) (by omega) hlt (hen'.keep up (Nat.ne_of_lt eS))
      ⟨hst'.1.at fun o q => up _ o (Nat.ne_of_lt iS) q, hst'.2.at fun o q => up _ o (Nat.ne_of_lt aS) q⟩ (fun b o n1 n2 n3 q => up b o n1 (hkp b o n2 n3 (kp b o n1 n2 n3 q))) (Heap.get?_update_self _ hS' rfl)
      (by rw [Array.toList_push, hacc, List.map_append]; rfl) (by rw [List.length_append, hal]; rfl) ⟨?_, ?_, ?_⟩⟩) (by rw [asz]; omega) (by show (acc.push (Value.ref h.objs.size)).size ≤ sizeLine + 1; rw [Array.size_push, asz]; omega)
    · refine List.pairwise_append.mpr ⟨G.rise, List.pairwise_singleton _ _, fun b hb d hd => ?_⟩
      rw [List.mem_singleton.mp hd]; exact G.lt hb
    · intro b hb
      rcases List.mem_append.mp hb with z | z
      · exact G.above b z
      · rw [List.mem_singleton.mp z]; exact Sl
    · intro j b hj
      have hj' : j < as.length + 1 := by
        have := (List.getElem?_eq_some_iff.mp hj).1
        rw [List.length_append] at this
        exact this
      by_cases z : j < as.length
      · rw [List.getElem?_append_left z] at hj
        obtain ⟨t', v, q1, q2⟩ := G.items j b hj
        have bS := G.above b (List.mem_of_getElem? hj)
        exact ⟨t', v, q1, up b _ (Nat.ne_of_gt bS) (hkp b _ (Nat.ne_of_gt (Nat.lt_trans eS bS)) (Nat.ne_of_gt (Nat.lt_trans iS bS)) q2)⟩
      · have ej : j = as.length := by omega
        subst ej
        have eb : h.objs.size = b := by simpa using hj
        subst eb
        exact ⟨t, x, by rw [hal]; exact hx, by rw [hal]; exact up _ _ (Nat.ne_of_gt Sl) hT⟩

theorem leCall {e it a : Addr} {its : Array Value} {Q : Value → Shared → Prop} (hh : A.handled = none) (hne : e ≠ it) (hea : e ≠ a) (hia : a ≠ it) (hn : its.size ≤ sizeLine) (he : IsEnum s.heap e it 0 .none) (hst : s.heap.IsTupleIter it a 0 ∧ s.heap.IsTuple a its)
    (hQ : ∀ h' tk acc c as, (∀ b o, b ≠ e → b ≠ it → s.heap.get? b = some o → h'.get? b = some o) → h'.get? s.heap.objs.size = some { cls := .type "list", dict := none, data := .seq acc c, slots := #[] } → as.length = its.size → Made its s.heap.objs.size h' as →
      acc.toList = as.map Value.ref → Q (.ref s.heap.objs.size) { s with heap := h', toks := tk }) : wpAny (model prog w) A (call (.type "list") [.ref e]) Q E s := by
  have el : e < s.heap.objs.size := Heap.lt_size he
  have il : it < s.heap.objs.size := by obtain ⟨_, q, _⟩ := hst.1; exact Heap.lt_size q
  have al : a < s.heap.objs.size := by obtain ⟨_, q, _⟩ := hst.2; exact Heap.lt_size q
  refine callType_codes (Q₁ := fun obj s₁ => obj = .ref s.heap.objs.size ∧ s₁ = { s with heap := s.heap.push { cls := .type "list", data := .seq #[] } }) PySem.F.called_list (PySem.F.typeCall_list_1 _) PySem.F.entry_list_init (code_list_new _ ⟨rfl, rfl⟩) fun obj s1 h1 => ?_
  obtain ⟨rfl, rfl⟩ := h1
  have hS : (s.heap.push { cls := .type "list", data := .seq #[] }).get? s.heap.objs.size = some { cls := .type "list", data := .seq #[] } := Heap.get?_push_size _ rfl
  have pk : ∀ b o, s.heap.get? b = some o → (s.heap.push { cls := .type "list", data := .seq #[] }).get? b = some o := fun b o q => Heap.get?_push_of_some _ q
  generalize hh0 : s.heap.objs.size = S at *
  generalize s.heap.push { cls := .type "list", data := .seq #[] } = g0 at *
  refine ⟨⟨_, hS, rfl⟩, PySem.F.args_list_init_2 _ _, ?_⟩
  show wpAny _ A.in1.in1 (do let old ← Builtin.List.listItems (.ref S); Builtin.List.listUpdate (.ref S) (fun _ => #[]); letGo old.toList.reverse; Builtin.List.listExtendWith (.ref S) (.ref e) .none) _ _ _
  refine wpAny_bind ?_
  unfold Builtin.List.listItems
  refine wpAny_bind (wpAny_seqItems hS rfl (wpAny_pure (wpAny_bind (m := updateSeq S (fun _ => #[])) (wpAny_updateSeq hS rfl ?_))))
  have oth : ∀ b o, b ≠ S → g0.get? b = some o → (g0.update S (Obj.mapSeq (fun _ => (#[] : Array Value)))).get? b = some o := fun b o hb q => (Heap.get?_update_other _ _ (Ne.symm hb)).trans q
  have hS2 := Heap.get?_update_self (Obj.mapSeq (fun _ => (#[] : Array Value))) hS rfl
  generalize g0.update S (Obj.mapSeq (fun _ => (#[] : Array Value))) = g1 at oth hS2
  have he1 : IsEnum g1 e it 0 .none := oth e _ (Nat.ne_of_lt el) (pk _ _ he)
  have hst1 : g1.IsTupleIter it a 0 ∧ g1.IsTuple a its := ⟨hst.1.at fun o q => oth it o (Nat.ne_of_lt il) (pk _ _ q), hst.2.at fun o q => oth a o (Nat.ne_of_lt al) (pk _ _ q)⟩
  refine wpAny_bind (wpAny_letGo ?_)
  have hT1 : ({ s with heap := g1 } : Shared).TypeIs (.ref e) "enumerate" := ⟨_, he1, rfl⟩
  unfold Builtin.List.listExtendWith
  refine wpAny_bind (wpAny_typeOf hT1 ?_)
  have n1 : Builtin.List.listSameRef (.ref S) (.ref e) = false := by simp [Builtin.List.listSameRef, Nat.ne_of_gt el]
  have n2 : (Value.type "enumerate" == Value.type "list") = false := by decide
  have n3 : (Value.type "enumerate" == Value.type "tuple") = false := by decide
  simp only [n1, n2, n3, Bool.or_false, Bool.false_eq_true, if_false]
  refine wpAny_bind (wpAny_pyIter_enum he1 (wpAny_bind (wpAny_holding ?_)))
  unfold Builtin.List.listLengthHint
  refine wpAny_bind (wpAny_specialOf hT1 enum_nolen ?_)
  refine wpAny_bind (m := specialOf (Value.ref e) (Str.ofString "__length_hint__")) (wpAny_specialOf hT1 enum_nohint (wpAny_pure ?_))
  refine wpAny_bind (m := rule "list.extend.makes-room") (wpAny_rule ?_)
  refine wpAny_bind (m := Builtin.List.listTouch (.ref S)) ?_
  refine wpAny_bind (m := updateSeq S (·.push .none)) (wpAny_updateSeq hS2 rfl ?_)
  have hS3 := Heap.get?_update_self (Obj.mapSeq (·.push Value.none)) hS2 rfl
  have ot3 : ∀ b o, b ≠ S → g1.get? b = some o → (g1.update S (Obj.mapSeq (·.push Value.none))).get? b = some o := fun b o hb q => (Heap.get?_update_other _ _ (Ne.symm hb)).trans q
  generalize g1.update S (Obj.mapSeq (·.push Value.none)) = g2 at ot3 hS3
  refine wpAny_updateSeq (hz := by seq_fits) hS3 rfl ?_
  have hS4 := Heap.get?_update_self (Obj.mapSeq (·.pop)) hS3 rfl
  have ot4 : ∀ b o, b ≠ S → g2.get? b = some o → (g2.update S (Obj.mapSeq (·.pop))).get? b = some o := fun b o hb q => (Heap.get?_update_other _ _ (Ne.symm hb)).trans q
  generalize g2.update S (Obj.mapSeq (·.pop)) = g3 at ot4 hS4
  have all : ∀ b o, b ≠ S → s.heap.get? b = some o → g3.get? b = some o := fun b o hb q => ot4 b o hb (ot3 b o hb (oth b o hb (pk b o q)))
  refine wpAny_pure ⟨plainId_quiet PySem.F.plain_extend_loop _, leLoop (A := A.in1) (s := s) (its := its) (g := s.heap) hh el il al hne hea hia hn .none (fun h' tk acc c as hk hS' hl G hacc => ⟨rfl, hQ h' tk acc c as (fun b o m1 m2 q => hk b o (fun z => ?_) m1 m2 q) hS' hl G hacc⟩) its.size 0 g3 _ _ #[] [] (Nat.sub_zero _) (Nat.zero_le _)
    (.inl ⟨_, all e _ (Nat.ne_of_lt el) he⟩) ⟨hst.1.at fun o q => all it o (Nat.ne_of_lt il) q, hst.2.at fun o q => all a o (Nat.ne_of_lt al) q⟩ (fun b o m1 _ _ q => all b o m1 q) hS4 rfl rfl ⟨List.Pairwise.nil, (fun _ z => nomatch z), fun j b hj => by simp at hj⟩⟩
  have := Heap.lt_size q
  rw [hh0, z] at this
  exact absurd this (Nat.lt_irrefl _)
end

/-! ### the rule -/
/-- new pairs (i, x) tracked at their addresses -/
def layP : Hp → List Addr → List V → Nat → Hp
  | H, t :: ts, x :: xs, i => layP (upd H t (.tup [.int (i : Nat), x])) ts xs (i + 1)
  | H, _, _, _ => H
theorem layP_off {b : Addr} : ∀ (ts : List Addr) (xs : List V) (H : Hp) (i : Nat), b ∉ ts → layP H ts xs i b = H b
  | [], _, _, _, _ => rfl
  | _ :: _, [], _, _, _ => rfl
  | t :: ts, x :: xs, H, i, h => by
    show layP (upd H t (.tup [.int (i : Nat), x])) ts xs (i + 1) b = H b
    rw [layP_off ts xs _ _ (fun z => h (List.mem_cons_of_mem _ z)), upd_ne (fun z : b = t => h (by rw [z]; exact List.mem_cons_self))]
theorem layP_at : ∀ (ts : List Addr) (xs : List V) (H : Hp) (i j : Nat) (t : Addr) (x : V), ts.Nodup → ts[j]? = some t → xs[j]? = some x → layP H ts xs i t = some (.tup [.int ((i + j : Nat) : Int), x])
  | [], _, _, _, _, _, _, _, h, _ => by simp at h
  | _ :: _, [], _, _, _, _, _, _, _, h => by simp at h
  | t0 :: ts, x0 :: xs, H, i, 0, t, x, nd, h1, h2 => by
    have e1 : t0 = t := by simpa using h1
    have e2 : x0 = x := by simpa using h2
    subst e1; subst e2
    show layP (upd H t0 (.tup [.int (i : Nat), x0])) ts xs (i + 1) t0 = _
    rw [layP_off ts xs _ _ (List.nodup_cons.mp nd).1, upd_same]
    rfl
  | t0 :: ts, x0 :: xs, H, i, j + 1, t, x, nd, h1, h2 => by
    have ih := layP_at ts xs (upd H t0 (.tup [.int (i : Nat), x0])) (i + 1) j t x (List.nodup_cons.mp nd).2 (by simpa using h1) (by simpa using h2)
    show layP (upd H t0 (.tup [.int (i : Nat), x0])) ts xs (i + 1) t = _
    rw [ih, show i + 1 + j = i + (j + 1) by omega]
theorem valsR : ∀ ts : List Addr, Vals (ts.map V.ref) (ts.map Value.ref)
  | [] => .nil
  | _ :: ts => .cons rfl (valsR ts)
/-- list(enumerate(t)): a new list of new pairs -/
def tListEnum (K : PySem.W.Frag) (ta : TA) : TE := fun σ H Q => ta σ H fun vs H1 => ∃ (a : Addr) (xs : List V), vs = [.ref a] ∧ SqT K H1 a xs ∧
  ∀ (H' : Hp) (p : Addr) (ts : List Addr), (∀ b o, H1 b = some o → H' b = some o) → H1 p = none → H' p = some (.lst (ts.map V.ref)) → ts.length = xs.length →
    (∀ (j : Nat) (t : Addr) (x : V), ts[j]? = some t → xs[j]? = some x → H' t = some (.tup [.int (j : Nat), x])) → Q (.ref p) H'
theorem pe_listEnum {X : Cx} {e : Expr} {ta : TA} {p p2 pos pos2 : Pos} (hc : X.calm = true) (hg : Gl X "list") (hm : X.mg "list" = none) (hv : bootBuiltins "list" = some (.type "list")) (hg2 : Gl X "enumerate") (hm2 : X.mg "enumerate" = none) (ha : PA X [e] ta)
    (hs : starEach [.Call (.Name "enumerate" p2) [e] [] pos2] X.env = (false, eval (.Call (.Name "enumerate" p2) [e] [] pos2) X.env) :: starEach [] X.env := by rfl) (hs2 : starEach [e] X.env = [(false, eval e X.env)] := by rfl) :
    PE X (.Call (.Name "list" p) [.Call (.Name "enumerate" p2) [e] [] pos2] [] pos) (tListEnum X.K ta) := by
  refine ⟨fun pins s σ H Q I hq => wpAny_Call_Name_kw (ld_blt I hg hm hv (PyProof.Rows.callWith_type1 ?_ hs rfl))⟩
  rw [hs]
  show wpAny _ _ (spliced ((false, eval (.Call (.Name "enumerate" p2) [e] [] pos2) X.env) :: backTo pos (starEach [] X.env))) _ _ s
  refine Calls.spliced_cons (wpAny_Call_Name_kw (ld_blt I hg2 hm2 boot_enumerate (PyProof.Rows.callWith_type1 (thn (ha.run pos2 pins s σ H _ I hq) fun us s1 ⟨vs, H1, J, r1, q1⟩ => ?_) hs2 rfl)))
  obtain ⟨a, xs, ex, hT, q⟩ := q1
  subst ex
  rw [Vals.ref1 r1]
  obtain ⟨its, rv, pT, hz⟩ := J.tuple hT
  have al : a < s1.heap.objs.size := by obtain ⟨_, ho, _⟩ := id pT; exact Heap.lt_size ho
  refine callEnum1 (begins_tuple a its.toArray) pT fun h0 he hit hk0 => Calls.spliced_nil ?_
  have lz : its.toArray.size = xs.length := by rw [List.size_toArray, ← rv.length]
  have pT0 : h0.IsTuple a its.toArray := by obtain ⟨o, ho, r⟩ := id pT; exact ⟨o, hk0 _ _ ho, r⟩
  have le0 : s1.heap.objs.size + 1 < h0.objs.size := Heap.lt_size he
  refine leCall (s := { s1 with heap := h0 }) (J.ok.hd hc) (Nat.succ_ne_self _) (Nat.ne_of_gt (Nat.lt_succ_of_lt al)) (Nat.ne_of_lt al) (by rw [lz]; exact hz) he ⟨⟨_, hit, rfl, rfl⟩, pT0⟩ fun h' tk acc c as hk hS hl G hacc => ?_
  have hS : h'.get? h0.objs.size = _ := hS
  have G : Made its.toArray h0.objs.size h' as := G
  have K' : ∀ b o, s1.heap.get? b = some o → h'.get? b = some o := fun b o q => hk b o (Nat.ne_of_lt (Nat.lt_succ_of_lt (Heap.lt_size q))) (Nat.ne_of_lt (Heap.lt_size q)) (hk0 b o q)
  have sle : s1.heap.objs.size ≤ h0.objs.size := Nat.le_of_lt (Nat.lt_of_succ_lt le0)
  have nd : as.Nodup := List.Pairwise.imp (fun {a b} (h : a < b) => Nat.ne_of_lt h) G.rise
  have nwS : H1 h0.objs.size = none := J.hok.fresh sle
  have nwT : ∀ t ∈ as, H1 t = none := fun t ht => J.hok.fresh (Nat.le_of_lt (Nat.lt_of_le_of_lt sle (G.above t ht)))
  have nS : h0.objs.size ∉ as := fun z => Nat.lt_irrefl _ (G.above _ z)
  have off : ∀ b, b ∉ as → b ≠ h0.objs.size → layP (upd H1 h0.objs.size (.lst (as.map V.ref))) as xs 0 b = H1 b := fun b m1 m2 => by rw [layP_off as xs _ _ m1, upd_ne m2]
  have kp : ∀ b u, H1 b = some u → layP (upd H1 h0.objs.size (.lst (as.map V.ref))) as xs 0 b = some u := fun b u q => by
    rw [off b (fun z => by rw [nwT b z] at q; cases q) (fun z => by rw [z, nwS] at q; cases q)]; exact q
  have eS : layP (upd H1 h0.objs.size (.lst (as.map V.ref))) as xs 0 h0.objs.size = some (.lst (as.map V.ref)) := by rw [layP_off as xs _ _ nS, upd_same]
  have atT : ∀ (j : Nat) (t : Addr) (x : V), as[j]? = some t → xs[j]? = some x → layP (upd H1 h0.objs.size (.lst (as.map V.ref))) as xs 0 t = some (.tup [.int (j : Nat), x]) := fun j t x h1 h2 => by
    rw [layP_at as xs _ 0 j t x nd h1 h2, Nat.zero_add]
  have lal : as.length = xs.length := by rw [hl, lz]
  refine ⟨.ref h0.objs.size, layP (upd H1 h0.objs.size (.lst (as.map V.ref))) as xs 0, ?_, rfl, q _ h0.objs.size as kp nwS eS lal atT⟩
  refine J.call' (ch := []) rfl ⟨fun b o q _ _ _ => K' b o q, fun b o q _ _ _ => ⟨o.slots, K' b o q⟩, fun b o q n _ => ?_, fun b o q _ => ⟨o, K' b o q⟩, fun b ys q => kp b _ q, fun b o u q => kp b _ q, fun b ps q => ⟨#[], by rw [kp b _ q]; simp⟩⟩ (fun b u q => ?_) J.bare fun b z => by simp at z
  · have bl := Heap.lt_size q
    rw [off b (fun z => absurd (Nat.lt_of_lt_of_le bl sle) (Nat.not_lt.mpr (Nat.le_of_lt (G.above b z)))) (Nat.ne_of_lt (Nat.lt_of_lt_of_le bl sle))]
    exact n
  · by_cases hb : b ∈ as
    · obtain ⟨j, hj⟩ := List.mem_iff_getElem?.mp hb
      have jl : j < xs.length := by rw [← lal]; exact (List.getElem?_eq_some_iff.mp hj).1
      have hx : xs[j]? = some xs[j] := List.getElem?_eq_getElem jl
      rw [atT j b _ hj hx] at q
      cases q
      obtain ⟨t, v, q1, q2⟩ := G.items j b hj
      obtain ⟨u, hu, ru⟩ := rv.get hx
      have eu : u = v := by
        have z : its[j]? = some v := by simpa using q1
        rw [hu] at z
        exact Option.some.inj z
      subst eu
      exact ⟨by show 2 ≤ sizeLine; decide, [.int j t, u], .cons ⟨t, rfl⟩ (.cons ru .nil), ⟨_, q2, rfl, _, rfl⟩⟩
    · by_cases hb2 : b = h0.objs.size
      · rw [hb2] at q ⊢
        rw [eS] at q
        cases q
        refine ⟨by rw [List.length_map, lal]; exact hz, acc.toList, c, by rw [hacc]; exact valsR as, ?_⟩
        rw [Array.toArray_toList]
        exact hS
      · rw [off b hb hb2] at q
        exact (J.hok b u q).stay (fun d v _ y => K' d v y) (fun d y => kp d _ y) fun d ys y => kp d _ y
end K36
end
section
set_option Elab.async false
set_option linter.all false
set_option maxRecDepth 100000
set_option maxHeartbeats 4000000
/-! The base of the walks: what values tell (Rp), what stays, comprehensions that change nothing, calls in short. -/
namespace K36
open PySem PySem.Spec PyProof.Rows L2

/-! ### what stays -/
section
variable {H H' H1 H2 : Hp} {p : Addr} {o : HO}
theorem sm_new (h : H p = none) : Same H (upd H p o) := fun b x e => by rw [upd_ne (ne_of_none e h)]; exact e
theorem sm_mut (e : Same H H') (h : H p = none) : Same H (upd H' p o) := fun b x q => by rw [upd_ne (ne_of_none q h)]; exact e b x q
/-- tuples stay -/
def Tk (H H' : Hp) : Prop := ∀ a xs, Rd H a (.tup xs) → Rd H' a (.tup xs)
theorem Tk.refl (H : Hp) : Tk H H := fun _ _ h => h
theorem Tk.trans (a : Tk H H1) (b : Tk H1 H2) : Tk H H2 := fun c xs h => b c xs (a c xs h)
theorem tk_of (e : Same H H') : Tk H H' := fun a xs h => h.elim (fun q => .inl (e _ _ q)) fun ⟨o, q⟩ => .inr ⟨o, e _ _ q⟩
theorem tk_upd (h : ∀ xs, H p = some (.tup xs) → False) (h2 : ∀ o xs, H p = some (.frz o (.tup xs)) → False) : Tk H (upd H p o) := fun a xs q => by
  have n : a ≠ p := fun z => by
    subst z
    rcases q with q | ⟨b, q⟩
    · exact h _ q
    · exact h2 _ _ q
  rcases q with q | ⟨b, q⟩
  · exact .inl (by rw [upd_ne n]; exact q)
  · exact .inr ⟨b, by rw [upd_ne n]; exact q⟩
theorem tk_lst {xs : List V} (h : H p = some (.lst xs)) : Tk H (upd H p o) := tk_upd (fun _ q => by rw [h] at q; cases q) fun _ _ q => by rw [h] at q; cases q
theorem tk_dk {kvs : List (Key × V)} (h : H p = some (.dK kvs)) : Tk H (upd H p o) := tk_upd (fun _ q => by rw [h] at q; cases q) fun _ _ q => by rw [h] at q; cases q
theorem tk_new (h : H p = none) : Tk H (upd H p o) := tk_of (sm_new h)
theorem Tk.sq {K : PySem.W.Frag} {a : Addr} {xs : List V} (e : Tk H H') (h : SqT K H a xs) : SqT K H' a xs := h.elim (fun q => .inl (e a xs q)) .inr
theorem st_of {K : PySem.W.Frag} {a : Addr} {xs : List V} (h : H a = some (.tup xs)) : SqT K H a xs := .inl (.inl h)
theorem sl_of {K : PySem.W.Frag} {a : Addr} {xs : List V} (h : H a = some (.lst xs)) : SqL K H a xs := .inl (.inl h)
end
theorem sz {n : Nat} (h : n ≤ 1000000) : n ≤ sizeLine := Nat.le_trans h (by decide)
theorem szl {n : Nat} (h : n < 1000000) : n < sizeLine := Nat.lt_of_lt_of_le h (by decide)

/-! ### what a value tells -/
abbrev Rp (α : Type) := Hp → V → α → Prop
class Up {α : Type} (R : Rp α) : Prop where
  up : ∀ {H H' : Hp} {v : V} {x : α}, Tk H H' → R H v x → R H' v x
def rI : Rp Int := fun _ v n => v = .int n
def rN : Rp Nat := fun _ v n => v = .int (n : Int)
instance : Up rI := ⟨fun _ h => h⟩
instance : Up rN := ⟨fun _ h => h⟩
section
variable {α β : Type} {K : PySem.W.Frag} {R : Rp α} {S : Rp β}
def rT (K : PySem.W.Frag) (R : Rp α) : Rp (List α) := fun H v xs => ∃ a us, v = .ref a ∧ SqT K H a us ∧ Paired (R H) us xs
def rP (K : PySem.W.Frag) (R : Rp α) (S : Rp β) : Rp (α × β) := fun H v p => ∃ a x y, v = .ref a ∧ SqT K H a [x, y] ∧ R H x p.1 ∧ S H y p.2
theorem up_all [Up R] {H H' : Hp} (e : Tk H H') {us : List V} {xs : List α} (h : Paired (R H) us xs) : Paired (R H') us xs := Paired.mapP h fun _ _ q => Up.up e q
instance [Up R] : Up (rT K R) := ⟨fun e ⟨a, us, h1, h2, h3⟩ => ⟨a, us, h1, e.sq h2, up_all e h3⟩⟩
instance [Up R] [Up S] : Up (rP K R S) := ⟨fun e ⟨a, x, y, h1, h2, h3, h4⟩ => ⟨a, x, y, h1, e.sq h2, Up.up e h3, Up.up e h4⟩⟩
theorem pd_get {F : α → β → Prop} : ∀ {xs : List α} {ys : List β} {i : Nat} {x : α}, Paired F xs ys → xs[i]? = some x → ∃ y, ys[i]? = some y ∧ F x y
  | _, _, _, _, .nil, h => by simp at h
  | _, _, 0, _, .cons r _, h => by simp at h; subst h; exact ⟨_, rfl, r⟩
  | _, _, i + 1, _, .cons _ t, h => pd_get (i := i) t (by simpa using h)
theorem pd_getr {F : α → β → Prop} : ∀ {xs : List α} {ys : List β} {i : Nat} {y : β}, Paired F xs ys → ys[i]? = some y → ∃ x, xs[i]? = some x ∧ F x y
  | _, _, _, _, .nil, h => by simp at h
  | _, _, 0, _, .cons r _, h => by simp at h; subst h; exact ⟨_, rfl, r⟩
  | _, _, i + 1, _, .cons _ t, h => pd_getr (i := i) t (by simpa using h)
theorem pd_ints : ∀ {H : Hp} {us : List V} {ns : List Int}, Paired (rI H) us ns → us = ns.map V.int
  | _, _, _, .nil => rfl
  | _, _, _, .cons r t => by rw [List.map_cons, ← pd_ints t]; exact congrArg (· :: _) r
theorem ints_pd {H : Hp} : ∀ ns : List Int, Paired (rI H) (ns.map V.int) ns
  | [] => .nil
  | _ :: ns => .cons rfl (ints_pd ns)
theorem pd_nats : ∀ {H : Hp} {us : List V} {ns : List Nat}, Paired (rN H) us ns → us = (ns.map Int.ofNat).map V.int
  | _, _, _, .nil => rfl
  | _, _, _, .cons r t => by rw [List.map_cons, List.map_cons, ← pd_nats t]; exact congrArg (· :: _) r
theorem nats_pd {H : Hp} : ∀ ns : List Nat, Paired (rN H) ((ns.map Int.ofNat).map V.int) ns
  | [] => .nil
  | _ :: ns => .cons rfl (nats_pd ns)
theorem rT_int {H : Hp} {v : V} {ns : List Int} (h : rT K rI H v ns) : ∃ a, v = .ref a ∧ SqT K H a (ns.map V.int) := by
  obtain ⟨a, us, h1, h2, h3⟩ := h
  exact ⟨a, h1, pd_ints h3 ▸ h2⟩
theorem rT_nat {H : Hp} {v : V} {ns : List Nat} (h : rT K rN H v ns) : ∃ a, v = .ref a ∧ SqT K H a ((ns.map Int.ofNat).map V.int) := by
  obtain ⟨a, us, h1, h2, h3⟩ := h
  exact ⟨a, h1, pd_nats h3 ▸ h2⟩
/-- an item of a tuple -/
theorem rT_at {H : Hp} {us : List V} {xs : List α} (h : Paired (R H) us xs) {i : Nat} {x : α} (hx : xs[i]? = some x) : ∃ u, atI us (i : Int) = some u ∧ R H u x := by
  obtain ⟨u, h1, h2⟩ := pd_getr h hx
  exact ⟨u, atI_nat h1, h2⟩
end

theorem drop1 {α : Type} {xs : List α} {i : Nat} {y : α} (h : (xs.drop 1)[i]? = some y) : xs[i + 1]? = some y := by rw [List.getElem?_drop, Nat.add_comm] at h; exact h
theorem drop1' {α : Type} {xs : List α} {i : Nat} {y : α} (h : xs[i + 1]? = some y) : (xs.drop 1)[i]? = some y := by rw [List.getElem?_drop, Nat.add_comm]; exact h
/-! ### targets -/
section
variable {K : PySem.W.Frag} {H : Hp} {σ : L2.St} {k : L2.St → Hp → Prop} {x y : V} {a : Addr} {i j : Nat}
theorem g_pair (h : SqT K H a [x, y]) (hk : k ((σ.set i (some x)).set j (some y)) H) : gTup K 2 (gCons (gName i) (gCons (gName j) gNil)) (.ref a) σ H k := ⟨a, [x, y], rfl, h, rfl, x, [y], rfl, y, [], rfl, rfl, hk⟩
end

theorem Paired.snocs {α β : Type} {F : α → β → Prop} : ∀ {a b : List α} {c d : List β}, Paired F a c → Paired F b d → Paired F (a ++ b) (c ++ d)
  | _, _, _, _, .nil, h => h
  | _, _, _, _, .cons r t, h => .cons r (Paired.snocs t h)
/-! ### comprehensions that change nothing -/
theorem lc_pure {J : It} {n : Nat} {G : Hp → Prop} {Y : Nat → Hp → V → Hp → Prop} (w : Walk J n G Y) {g : TG} {tt : TT} {te : TE} {vs : List Nat} {σ : L2.St} {H1 : Hp} {D : Addr} {Qd : Hp → Prop} {α β : Type} (R : Rp α) [Up R] (zs : List β) (hn : zs.length = n) (p : β → Bool) (f : β → α)
    (hD : H1 D = none) (hz : n ≤ 100000) (hG : ∀ H, Same H1 H → G H)
    (hs : ∀ i z x H H' (Cy : V → Hp → Prop) (Cn : Hp → Prop), zs[i]? = some z → Same H1 H → Y i H x H' → (∀ y H4, Same H' H4 → R H4 y (f z) → p z = true → Cy y H4) → (∀ H3, Same H' H3 → p z = false → Cn H3) →
      g x (wipe σ vs) H' fun σ2 H2 => wipe σ2 vs = wipe σ vs ∧ tt σ2 H2 fun b H3 => if b = true then te σ2 H3 Cy else Cn H3)
    (hY : ∀ i H x H', Y i H x H' → Same H H')
    (hd : ∀ H us, Same H1 H → H D = some (.lst us) → Paired (R H) us ((zs.filter p).map f) → Qd H) :
    ∃ W : Nat → Nat → Hp → Prop, (∃ m, W 0 m (upd H1 D (.lst []))) ∧ ∀ i m H, W i m H →
      (J.stop i H ∧ Qd H) ∨ (J.go i H ∧ ∃ Nx : Hp → Prop, (∀ H', Nx H' → ∃ m', m' < m ∧ W (i + 1) m' H') ∧ ∀ x H', J.yld i H x H' → g x (wipe σ vs) H' fun σ2 H2 => wipe σ2 vs = wipe σ vs ∧ tt σ2 H2 fun b H3 =>
        if b = true then te σ2 H3 fun y H4 => ∃ acc, H4 D = some (.lst acc) ∧ acc.length < sizeLine ∧ Nx (upd H4 D (.lst (acc ++ [y]))) else Nx H3) := by
  refine lc_it w (fun i H => Same H1 H ∧ ∃ us, H D = some (.lst us) ∧ Paired (R H) us (((zs.take i).filter p).map f)) ⟨sm_new hD, [], upd_same, by rw [List.take_zero]; exact .nil⟩ (fun i H _ h => hG H h.1) (fun i x H H' hi hP hy => ?_) (fun H hP => ?_)
  · obtain ⟨e, us, hl, hp⟩ := hP
    have iz : i < zs.length := by omega
    have hx : zs[i]? = some zs[i] := List.getElem?_eq_getElem iz
    have lu : us.length ≤ i := by
      have h1 := hp.length
      have h2 := List.length_filter_le p (zs.take i)
      rw [List.length_map] at h1
      rw [List.length_take] at h2
      omega
    refine hs i zs[i] x H H' _ _ hx e hy (fun y H4 e4 r hpz => ?_) fun H3 e3 hpz => ?_
    · have e5 := (hY i H x H' hy).trans e4
      refine ⟨us, e5 _ _ hl, szl (by omega), sm_mut (e.trans e5) hD, us ++ [y], upd_same, ?_⟩
      have k5 : Tk H4 (upd H4 D (.lst (us ++ [y]))) := tk_lst (e5 _ _ hl)
      rw [List.take_add_one, hx, List.filter_append, List.map_append]
      refine Paired.snocs (up_all (k5) (up_all (tk_of e5) hp)) ?_
      rw [show (some zs[i]).toList = [zs[i]] from rfl, List.filter_cons, if_pos hpz]
      exact .cons (Up.up k5 r) .nil
    · have e5 := (hY i H x H' hy).trans e3
      refine ⟨e.trans e5, us, e5 _ _ hl, ?_⟩
      rw [List.take_add_one, hx, List.filter_append, show (some zs[i]).toList = [zs[i]] from rfl, List.filter_cons, if_neg (by rw [hpz]; exact Bool.false_ne_true), List.filter_nil, List.append_nil]
      exact up_all (tk_of e5) hp
  · obtain ⟨e, us, hl, hp⟩ := hP
    rw [List.take_of_length_le (by omega)] at hp
    exact hd H us e hl hp

/-! ### the names of the top -/
structure BI (mg : Str → Option Value) : Prop where
  len : mg "len" = none
  isinstance : mg "isinstance" = none
  int : mg "int" = none
  bool : mg "bool" = none
  tuple : mg "tuple" = none
  list : mg "list" = none
  zip : mg "zip" = none
  enumerate : mg "enumerate" = none
  range : mg "range" = none
  max : mg "max" = none
  min : mg "min" = none
  sum : mg "sum" = none
  reversed : mg "reversed" = none
  repr : mg "repr" = none
def topS (i : Nat) : Stmt := PySem.Challenge.pw_besthours_k36_whole_values_that_can_not.main.body.getD i (.Pass ⟨0, 0, 0, 0⟩)
/-- the def x stands at the top and keeps sp -/
def Dk (P : Program) (w : World) (K : PySem.W.Frag) (mg : Str → Option Value) (base : Heap) (k : Nat) (x : Str) (ps : List Str) (sp : Sp) : Prop :=
  ∃ f fd, mg x = some (.ref f) ∧ PySem.W.keepIn K (.ref f) = true ∧ Binds K fd ps [] ∧ FnOk P w K mg base CX0 k f fd ps sp
/-- the same, where no repr is under way -/
def Dg (P : Program) (w : World) (K : PySem.W.Frag) (mg : Str → Option Value) (base : Heap) (k : Nat) (x : Str) (ps : List Str) (sp : Sp) : Prop :=
  ∃ f fd, mg x = some (.ref f) ∧ PySem.W.keepIn K (.ref f) = true ∧ Binds K fd ps [] ∧ FnG P w K mg base k f fd ps sp
section
variable {X : Cx} {k j : Nat} {ps : List Str} {sp : Sp} {x : Str} {p pos : Pos} {e : Expr} {es : List Expr} {t : TA}
theorem pe_callD (D : Dk X.prog X.w X.K X.mg X.base k x ps sp) (hr : Room j X.A) (ha : PA X (e :: es) t) (hj : k ≤ j := by decide) (hg : Gl X x := by rfl) (hdb : (x == ("__debug__" : Str)) = false := by decide)
    (he : starEach (e :: es) X.env = (false, eval e X.env) :: starEach es X.env := by rfl) (hpl : (backTo pos (starEach es X.env)).any (·.1) = false := by rfl) : PE X (.Call (.Name x p) (e :: es) [] pos) (tCall sp [] E0 t) := by
  obtain ⟨f, fd, hm, hk, hb, F⟩ := D
  exact pe_call F (hr.mono hj) hg hm hk hb .nil pass0 ha hdb he hpl
theorem pe_callDG (D : Dg X.prog X.w X.K X.mg X.base k x ps sp) (hr : Room j X.A) (hgd : X.A.guards = some []) (ha : PA X (e :: es) t) (hj : k ≤ j := by decide) (hg : Gl X x := by rfl) (hdb : (x == ("__debug__" : Str)) = false := by decide)
    (he : starEach (e :: es) X.env = (false, eval e X.env) :: starEach es X.env := by rfl) (hpl : (backTo pos (starEach es X.env)).any (·.1) = false := by rfl) : PE X (.Call (.Name x p) (e :: es) [] pos) (tCall sp [] E0 t) := by
  obtain ⟨f, fd, hm, hk, hb, F⟩ := D
  exact pe_callG F (hr.mono hj) hgd hg hm hk hb ha hdb he hpl
theorem pe_callDG0 (D : Dg X.prog X.w X.K X.mg X.base k x ps sp) (hr : Room j X.A) (hgd : X.A.guards = some []) (hj : k ≤ j := by decide) (hg : Gl X x := by rfl) (hdb : (x == ("__debug__" : Str)) = false := by decide) :
    PE X (.Call (.Name x p) [] [] pos) (tCall sp [] E0 tNil) := by
  obtain ⟨f, fd, hm, hk, hb, F⟩ := D
  exact pe_call0G F (hr.mono hj) hgd hg hm hk hb hdb
theorem ip_bor : PIp X .BitOr (ipI Builtin.bitOr) := by
  intro pins s σ H x y v u Q I r1 r2 h
  obtain ⟨i, j, e1, e2, q⟩ := h
  exact iop_or pins s σ H x y v u Q I r1 r2 ⟨i, j, e1, e2, q⟩
end
theorem dk_mk {P : Program} {w : World} {K : PySem.W.Frag} {mg : Str → Option Value} {base : Heap} {k : Nat} {x qual : Str} {st : Stmt} {f : Addr} {fd : FuncData} {ps : List Str} {sp : Sp} (hm : mg x = some (.ref f)) (F : Fun K x qual st f fd) (b : Binds K fd ps []) (G : FnOk P w K mg base CX0 k f fd ps sp) : Dk P w K mg base k x ps sp := ⟨f, fd, hm, F.kp, b, G⟩
theorem dg_mk {P : Program} {w : World} {K : PySem.W.Frag} {mg : Str → Option Value} {base : Heap} {k : Nat} {x qual : Str} {st : Stmt} {f : Addr} {fd : FuncData} {ps : List Str} {sp : Sp} (hm : mg x = some (.ref f)) (F : Fun K x qual st f fd) (b : Binds K fd ps []) (G : FnG P w K mg base k f fd ps sp) : Dg P w K mg base k x ps sp := ⟨f, fd, hm, F.kp, b, G⟩
end K36
end
section
set_option autoImplicit false
/-! The mathematics of masks: one look at a sum. Core Lean alone. -/
namespace K36

/-! ### masks -/
def vl (m : Nat) : List Nat := (List.range m).filter fun v => m.testBit v
theorem mem_vl {m v : Nat} : v ∈ vl m ↔ m.testBit v = true := by
  unfold vl
  rw [List.mem_filter, List.mem_range]
  refine ⟨fun h => h.2, fun h => ⟨?_, h⟩⟩
  have h1 := Nat.ge_two_pow_of_testBit h
  have h2 : v < 2 ^ v := Nat.lt_two_pow_self
  omega
theorem asc_vl (m : Nat) : asc (vl m) := (asc_range m).sublist List.filter_sublist
theorem vl_below {m n : Nat} (h : m < 2 ^ n) : vl m = (List.range n).filter fun v => m.testBit v := by
  refine asc_ext (asc_vl m) ((asc_range n).sublist List.filter_sublist) fun x => ?_
  rw [mem_vl, List.mem_filter, List.mem_range]
  refine ⟨fun hx => ⟨?_, hx⟩, fun hx => hx.2⟩
  have h1 := Nat.ge_two_pow_of_testBit hx
  exact (Nat.pow_lt_pow_iff_right (by omega)).mp (Nat.lt_of_le_of_lt h1 h)
theorem vl_zero : vl 0 = [] := rfl
theorem vl_nil {m : Nat} (h : vl m = []) : m = 0 := by
  apply Nat.eq_of_testBit_eq
  intro i
  rw [Nat.zero_testBit]
  cases hb : m.testBit i with
  | false => rfl
  | true =>
    have := mem_vl.mpr hb
    rw [h] at this
    exact absurd this List.not_mem_nil
def bitsOf (vs : List Nat) : Nat := vs.foldl (fun a v => a ||| 2 ^ v) 0
theorem bits_go (i : Nat) : ∀ (vs : List Nat) (a : Nat), (vs.foldl (fun a v => a ||| 2 ^ v) a).testBit i = (a.testBit i || decide (i ∈ vs))
  | [], a => by simp
  | v :: vs, a => by
    rw [List.foldl_cons, bits_go i vs, Nat.testBit_or, Nat.testBit_two_pow]
    by_cases h : v = i
    · subst h; simp
    · have h2 : ¬ i = v := fun e => h e.symm
      simp [h, h2]
theorem bits_at {vs : List Nat} {i : Nat} : (bitsOf vs).testBit i = decide (i ∈ vs) := by
  unfold bitsOf
  rw [bits_go, Nat.zero_testBit, Bool.false_or]
theorem vl_bits {vs : List Nat} (h : asc vs) : vl (bitsOf vs) = vs := asc_ext (asc_vl _) h fun x => by rw [mem_vl, bits_at, decide_eq_true_eq]
theorem vl_full (n : Nat) : vl (2 ^ n - 1) = List.range n := asc_ext (asc_vl _) (asc_range n) fun x => by
  rw [mem_vl, Nat.testBit_two_pow_sub_one, decide_eq_true_eq, List.mem_range]
/-- the values with a weight above a number -/
def above (ws : List Int) (low : Int) : List Nat := (List.range ws.length).filter fun v => decide (low < ws.getD v 0)
theorem mem_above {ws : List Int} {low : Int} {v : Nat} : v ∈ above ws low ↔ v < ws.length ∧ low < ws.getD v 0 := by
  unfold above
  rw [List.mem_filter, List.mem_range, decide_eq_true_eq]
theorem mem_keep {m : Nat} {ws : List Int} {low : Int} {v : Nat} : v ∈ vl (m &&& bitsOf (above ws low)) ↔ v ∈ vl m ∧ v < ws.length ∧ low < ws.getD v 0 := by
  rw [mem_vl, Nat.testBit_and, bits_at, mem_vl, Bool.and_eq_true, decide_eq_true_eq, mem_above]

/-! ### masks as a family -/
abbrev famM (Ms : List Nat) : Fam := Ms.map vl
theorem at_famM (Ms : List Nat) (c : Nat) : at' (famM Ms) c = vl (Ms.getD c 0) := by
  unfold at' famM
  rw [List.getD_eq_getElem?_getD, List.getD_eq_getElem?_getD, List.getElem?_map]
  cases Ms[c]? with
  | none => rfl
  | some m => rfl
theorem famM_set (Ms : List Nat) (c m : Nat) : famM (Ms.set c m) = (famM Ms).set c (vl m) := List.map_set
/-- choices ascend -/
abbrev ascT (ts : List (Nat × List Int)) : Prop := ts.Pairwise fun a b => a.1 < b.1
theorem tsum_same {S S' : Fam} : ∀ {ts : List (Nat × List Int)}, (∀ q, q ∈ ts → tp q.2 (at' S' q.1) = tp q.2 (at' S q.1)) → tsum ts S' = tsum ts S
  | [], _ => rfl
  | q :: ts, h => by rw [tsum_cons, tsum_cons, h q List.mem_cons_self, tsum_same fun r hr => h r (List.mem_cons_of_mem _ hr)]
theorem ascT_eq : ∀ {ts : List (Nat × List Int)} {p q : Nat × List Int}, ascT ts → p ∈ ts → q ∈ ts → p.1 = q.1 → p = q
  | [], _, _, _, h, _, _ => absurd h List.not_mem_nil
  | r :: ts, p, q, ha, hp, hq, e => by
    obtain ⟨h1, h2⟩ := List.pairwise_cons.mp ha
    rcases List.mem_cons.mp hp with z | z
    · rcases List.mem_cons.mp hq with y | y
      · rw [z, y]
      · have := h1 q y; rw [z] at e; omega
    · rcases List.mem_cons.mp hq with y | y
      · have := h1 p z; rw [y] at e; omega
      · exact ascT_eq h2 z y e
/-- two families that agree where a sum looks -/
theorem At1.same {s : Sm} {S S' : Fam} (h : At1 s S) (e : ∀ p, p ∈ s.1 → at' S' p.1 = at' S p.1) : At1 s S' := by
  have t : tsum s.1 S' = tsum s.1 S := tsum_same fun q hq => by rw [e q hq]
  refine ⟨by rw [t]; exact h.ok, fun p hp v hv => ?_⟩
  rw [t, e p hp]
  exact h.can p hp v (by rw [← e p hp]; exact hv)

/-! ### a look -/
def keepAt (Ms : List Nat) (p : Nat × List Int) (low : Int) : Nat := Ms.getD p.1 0 &&& bitsOf (above p.2 low)
/-- the masks, the queue, how long the trail is -/
abbrev LS := List Nat × List Nat × Nat
def lookStep (idx : List (List Nat)) (spare : Int) (st : LS) (x : (Nat × List Int) × Int) : LS :=
  if keepAt st.1 x.1 (x.2 - spare - 1) = st.1.getD x.1.1 0 then st else (st.1.set x.1.1 (keepAt st.1 x.1 (x.2 - spare - 1)), st.2.1 ++ idx.getD x.1.1 [], st.2.2 + 1)
/-- where the search stands -/
structure SInv (L0 : Fam) (sums : List Sm) (Ms q : List Nat) : Prop where
  mid : Mid L0 sums (famM Ms)
  stable : ∀ j s, sums[j]? = some s → j ∉ q → At1 s (famM Ms)
  qlt : ∀ j, j ∈ q → j < sums.length
/-- the sums that name a choice -/
structure IdxOk (sums : List Sm) (idx : List (List Nat)) (B : Nat) : Prop where
  has : ∀ c j s p, sums[j]? = some s → p ∈ s.1 → p.1 = c → j ∈ idx.getD c []
  lt : ∀ c j, j ∈ idx.getD c [] → j < sums.length
  le : ∀ c, (idx.getD c []).length ≤ B
structure SmOk (n : Nat) (sizes : List Nat) (s : Sm) : Prop where
  named : Named n s
  asc : ascT s.1
  len : ∀ p, p ∈ s.1 → p.2.length = sizes.getD p.1 0
theorem sum_set_lt : ∀ {l : List Nat} {c x : Nat}, c < l.length → x < l.getD c 0 → (l.set c x).sum < l.sum
  | [], _, _, h, _ => by simp at h
  | a :: l, 0, x, _, h => by
    have h' : x < a := by simpa using h
    show (x :: l).sum < (a :: l).sum
    rw [List.sum_cons, List.sum_cons]; omega
  | a :: l, c + 1, x, h, h2 => by
    have ih := sum_set_lt (l := l) (c := c) (x := x) (by simpa using h) (by simpa using h2)
    show (a :: l.set c x).sum < (a :: l).sum
    rw [List.sum_cons, List.sum_cons]; omega
theorem getD_set (l : List Nat) (c d x : Nat) : (l.set c x).getD d 0 = if d = c ∧ c < l.length then x else l.getD d 0 := by
  rw [List.getD_eq_getElem?_getD, List.getD_eq_getElem?_getD, List.getElem?_set]
  by_cases h : c = d
  · subst h
    by_cases hc : c < l.length
    · rw [if_pos rfl, if_pos hc, if_pos ⟨rfl, hc⟩]; rfl
    · rw [if_pos rfl, if_neg hc, if_neg (fun h => hc h.2), List.getElem?_eq_none (by omega)]
  · rw [if_neg h, if_neg (fun k => h k.1.symm)]

section
variable {L0 : Fam} {sums : List Sm} {idx : List (List Nat)} {B : Nat} {sizes : List Nat} {j : Nat} {s : Sm} {Ms : List Nat}
/-- what holds amid a look at the sum s, the j-th, which began at the masks Ms -/
structure LInv (L0 : Fam) (sums : List Sm) (B : Nat) (j : Nat) (s : Sm) (Ms : List Nat) (q0 n0 : Nat) (done rest : List (Nat × List Int)) (st : LS) : Prop where
  mid : Mid L0 sums (famM st.1)
  others : ∀ i t, sums[i]? = some t → i ∉ st.2.1 → i ≠ j → At1 t (famM st.1)
  qlt : ∀ i, i ∈ st.2.1 → i < sums.length
  tops : ∀ p, p ∈ s.1 → tp p.2 (at' (famM st.1) p.1) = tp p.2 (at' (famM Ms) p.1)
  ahead : ∀ p, p ∈ rest → st.1.getD p.1 0 = Ms.getD p.1 0
  own : j ∈ st.2.1 ∨ (st.1 = Ms ∧ st.2.1.length ≤ q0 ∧ ∀ p, p ∈ done → ∀ v, v ∈ at' (famM Ms) p.1 → s.2 ≤ tsum s.1 (famM Ms) - tp p.2 (at' (famM Ms) p.1) + p.2.getD v 0)
  less : st.1.sum * B + st.2.1.length ≤ Ms.sum * B + q0
  trail : st.1.sum + st.2.2 ≤ Ms.sum + n0
  len : st.1.length = Ms.length
theorem look_go (hI : IdxOk sums idx B) (hj : sums[j]? = some s) (hs : SmOk L0.length sizes s) (hL : ∀ c v, v ∈ at' L0 c → v < sizes.getD c 0) (hb : s.2 ≤ tsum s.1 (famM Ms)) {q0 n0 : Nat} :
    ∀ (rest done : List (Nat × List Int)) (st : LS), s.1 = done ++ rest → LInv L0 sums B j s Ms q0 n0 done rest st →
      LInv L0 sums B j s Ms q0 n0 s.1 [] ((rest.map fun p => (p, tp p.2 (at' (famM Ms) p.1))).foldl (lookStep idx (tsum s.1 (famM Ms) - s.2)) st)
  | [], done, st, e, h => by
    rw [List.append_nil] at e
    subst e
    exact h
  | p :: rest, done, st, e, h => by
    have hp : p ∈ s.1 := by rw [e]; exact List.mem_append_right _ List.mem_cons_self
    have hsm : s ∈ sums := List.mem_of_getElem? hj
    have eat : st.1.getD p.1 0 = Ms.getD p.1 0 := h.ahead p List.mem_cons_self
    have hc : p.1 < L0.length := hs.named p hp
    have lS : (famM st.1).length = L0.length := h.mid.len
    have lM : st.1.length = L0.length := by rw [← lS]; exact (List.length_map ..).symm
    have ts : tsum s.1 (famM st.1) = tsum s.1 (famM Ms) := tsum_same h.tops
    have ap : at' (famM st.1) p.1 = at' (famM Ms) p.1 := by rw [at_famM, at_famM, eat]
    -- which values are kept
    have kept : ∀ v, v ∈ vl (keepAt st.1 p (tp p.2 (at' (famM Ms) p.1) - (tsum s.1 (famM Ms) - s.2) - 1)) ↔ v ∈ at' (famM st.1) p.1 ∧ v < p.2.length ∧ s.2 ≤ tsum s.1 (famM st.1) - tp p.2 (at' (famM st.1) p.1) + p.2.getD v 0 := by
      intro v
      unfold keepAt
      rw [mem_keep, at_famM, ts, at_famM, eat]
      constructor
      · intro ⟨a, b, c⟩; exact ⟨a, b, by omega⟩
      · intro ⟨a, b, c⟩; exact ⟨a, b, by omega⟩
    have inl : ∀ v, v ∈ at' (famM st.1) p.1 → v < p.2.length := fun v hv => by
      rw [hs.len p hp]
      exact hL _ _ (h.mid.sub _ _ hv)
    show LInv L0 sums B j s Ms q0 n0 s.1 [] (List.foldl (lookStep idx (tsum s.1 (famM Ms) - s.2)) (lookStep idx (tsum s.1 (famM Ms) - s.2) st (p, tp p.2 (at' (famM Ms) p.1))) (rest.map fun p => (p, tp p.2 (at' (famM Ms) p.1))))
    refine look_go hI hj hs hL hb rest (done ++ [p]) _ (by rw [e, List.append_assoc]; rfl) ?_
    unfold lookStep
    by_cases hk : keepAt st.1 p (tp p.2 (at' (famM Ms) p.1) - (tsum s.1 (famM Ms) - s.2) - 1) = st.1.getD p.1 0
    · rw [if_pos hk]
      refine ⟨h.mid, h.others, h.qlt, h.tops, fun r hr => h.ahead r (List.mem_cons_of_mem _ hr), ?_, h.less, h.trail, h.len⟩
      rcases h.own with o | ⟨o1, o2, o3⟩
      · exact .inl o
      · refine .inr ⟨o1, o2, fun r hr v hv => ?_⟩
        rcases List.mem_append.mp hr with z | z
        · exact o3 r z v hv
        · rw [List.mem_singleton.mp z] at hv ⊢
          have h1 : v ∈ vl (keepAt st.1 p (tp p.2 (at' (famM Ms) p.1) - (tsum s.1 (famM Ms) - s.2) - 1)) := by rw [hk, ← at_famM, ap]; exact hv
          have h2 := ((kept v).mp h1).2.2
          rw [ts, ap] at h2
          exact h2
    · rw [if_neg hk]
      generalize hkk : keepAt st.1 p (tp p.2 (at' (famM Ms) p.1) - (tsum s.1 (famM Ms) - s.2) - 1) = kk at hk kept ⊢
      have sub : ∀ v, v ∈ vl kk → v ∈ at' (famM st.1) p.1 := fun v hv => ((kept v).mp hv).1
      have lt : kk < st.1.getD p.1 0 := by
        have h1 : kk ≤ st.1.getD p.1 0 := by rw [← hkk]; exact Nat.and_le_left
        omega
      have hc' : p.1 < st.1.length := by rw [lM]; exact hc
      have mid' : Mid L0 sums (famM (st.1.set p.1 kk)) := by
        rw [famM_set]
        exact h.mid.take hsm hs.named (by rw [ts]; exact hb) hp (asc_vl kk) sub fun v hv hin => (kept v).mpr ⟨hv, inl v hv, hin⟩
      have hat : ∀ c, at' (famM (st.1.set p.1 kk)) c = if c = p.1 then vl kk else at' (famM st.1) c := fun c => by
        rw [at_famM, getD_set]
        by_cases z : c = p.1
        · rw [if_pos ⟨z, hc'⟩, if_pos z]
        · rw [if_neg (fun k => z k.1), if_neg z, at_famM]
      -- the top stays
      have top : tp p.2 (vl kk) = tp p.2 (at' (famM st.1) p.1) := by
        have ne : vl kk ≠ [] := by
          have := mid'.ne p.1 hc
          rw [hat, if_pos rfl] at this
          exact this
        have h1 : ((at' (famM st.1) p.1).map fun v => p.2.getD v 0) ≠ [] := fun z => h.mid.ne _ hc (List.map_eq_nil_iff.mp z)
        obtain ⟨v, hv, ev⟩ := List.mem_map.mp (mx_mem h1)
        have ev' : p.2.getD v 0 = tp p.2 (at' (famM st.1) p.1) := ev
        have hvk : v ∈ vl kk := (kept v).mpr ⟨hv, inl v hv, by rw [ts, ev']; omega⟩
        have a := tp_mono (ws := p.2) ne sub
        have b := le_tp (ws := p.2) hvk
        omega
      refine ⟨mid', fun i t hi hni hij => ?_, fun i hi => ?_, fun r hr => ?_, fun r hr => ?_, .inl ?_, ?_, ?_, ?_⟩
      · have hni1 : i ∉ st.2.1 := fun z => hni (List.mem_append_left _ z)
        refine (h.others i t hi hni1 hij).same fun r hr => ?_
        rw [hat]
        by_cases z : r.1 = p.1
        · exact absurd (List.mem_append_right _ (hI.has p.1 i t r hi hr z)) hni
        · rw [if_neg z]
      · rcases List.mem_append.mp hi with z | z
        · exact h.qlt i z
        · exact hI.lt _ _ z
      · rw [hat]
        by_cases z : r.1 = p.1
        · have er := ascT_eq hs.asc hr hp z
          subst er
          rw [if_pos rfl, top]
          exact h.tops r hr
        · rw [if_neg z]
          exact h.tops r hr
      · have nr : ¬ (r.1 = p.1 ∧ p.1 < st.1.length) := fun k => by
          have a := hs.asc
          rw [e] at a
          have a2 := (List.pairwise_cons.mp (List.pairwise_append.mp a).2.1).1 r hr
          omega
        show (st.1.set p.1 kk).getD r.1 0 = _
        rw [getD_set, if_neg nr]
        exact h.ahead r (List.mem_cons_of_mem _ hr)
      · exact List.mem_append_right _ (hI.has p.1 j s p hj hp rfl)
      · show (st.1.set p.1 kk).sum * B + (st.2.1 ++ idx.getD p.1 []).length ≤ _
        have a := sum_set_lt hc' lt
        have b := hI.le p.1
        have c := h.less
        have d : ((st.1.set p.1 kk).sum + 1) * B ≤ st.1.sum * B := Nat.mul_le_mul_right B a
        rw [Nat.add_mul, Nat.one_mul] at d
        rw [List.length_append]
        omega
      · show (st.1.set p.1 kk).sum + (st.2.2 + 1) ≤ _
        have a := sum_set_lt hc' lt
        have c := h.trail
        omega
      · show (st.1.set p.1 kk).length = _
        rw [List.length_set]
        exact h.len
/-- what a look does -/
def lookAll (idx : List (List Nat)) (s : Sm) (st : LS) : LS := (s.1.map fun p => (p, tp p.2 (at' (famM st.1) p.1))).foldl (lookStep idx (tsum s.1 (famM st.1) - s.2)) st
theorem look_ok {q : List Nat} {n : Nat} (hI : IdxOk sums idx B) (hj : sums[j]? = some s) (hs : SmOk L0.length sizes s) (hL : ∀ c v, v ∈ at' L0 c → v < sizes.getD c 0) (hS : SInv L0 sums Ms (q ++ [j])) (hb : s.2 ≤ tsum s.1 (famM Ms)) :
    SInv L0 sums (lookAll idx s (Ms, q, n)).1 (lookAll idx s (Ms, q, n)).2.1 ∧ (lookAll idx s (Ms, q, n)).1.sum * B + (lookAll idx s (Ms, q, n)).2.1.length < Ms.sum * B + (q ++ [j]).length ∧
      (lookAll idx s (Ms, q, n)).1.sum + (lookAll idx s (Ms, q, n)).2.2 ≤ Ms.sum + n ∧ (lookAll idx s (Ms, q, n)).1.length = Ms.length := by
  have start : LInv L0 sums B j s Ms q.length n [] s.1 (Ms, q, n) :=
    ⟨hS.mid, fun i t hi hni hij => hS.stable i t hi fun z => (List.mem_append.mp z).elim hni fun y => hij (List.mem_singleton.mp y), fun i hi => hS.qlt i (List.mem_append_left _ hi), fun _ _ => rfl, fun _ _ => rfl,
      .inr ⟨rfl, Nat.le_refl _, fun _ h => absurd h List.not_mem_nil⟩, Nat.le_refl _, Nat.le_refl _, rfl⟩
  have fin := look_go hI hj hs hL hb s.1 [] (Ms, q, n) rfl start
  have fin' : LInv L0 sums B j s Ms q.length n s.1 [] (lookAll idx s (Ms, q, n)) := fin
  refine ⟨⟨fin'.mid, fun i t hi hni => ?_, fin'.qlt⟩, ?_, fin'.trail, fin'.len⟩
  · by_cases z : i = j
    · subst z
      rw [hj] at hi
      cases hi
      rcases fin'.own with o | ⟨o1, _, o3⟩
      · exact absurd o hni
      · rw [o1]
        exact ⟨hb, o3⟩
    · exact fin'.others i t hi hni z
  · have := fin'.less
    rw [List.length_append, List.length_singleton]
    omega
theorem look_broken {q : List Nat} (hj : sums[j]? = some s) (hs : SmOk L0.length sizes s) (hS : SInv L0 sums Ms q) (hb : tsum s.1 (famM Ms) < s.2) : IsNar L0 sums none :=
  hS.mid.broken (List.mem_of_getElem? hj) hs.named hb
theorem look_end (hS : SInv L0 sums Ms []) : IsNar L0 sums (some (famM Ms)) := hS.mid.done fun s hs => by
  obtain ⟨i, hi⟩ := List.mem_iff_getElem?.mp hs
  exact hS.stable i s hi List.not_mem_nil
end
end K36
end
section
set_option Elab.async false
set_option linter.all false
set_option maxRecDepth 100000
set_option maxHeartbeats 4000000
/-! More of the base: tests that are decided, comprehensions that give nothing, slices from 1 on. -/
namespace K36
open PySem PySem.Spec PyProof.Rows L2
section
variable {c A B : Prop} [Decidable c]
theorem iteD (hc : c) (h : A) : if decide c = true then A else B := by rw [if_pos (decide_eq_true hc)]; exact h
theorem iteN (hc : ¬ c) (h : B) : if decide c = true then A else B := by rw [if_neg (by simpa using hc)]; exact h
theorem iteD' (hc : c) (h : B) : if (!decide c) = true then A else B := by rw [if_neg (by simpa using hc)]; exact h
theorem iteN' (hc : ¬ c) (h : A) : if (!decide c) = true then A else B := by rw [if_pos (by simpa using hc)]; exact h
end
theorem iteB {b : Bool} {A B : Prop} (h1 : b = true → A) (h2 : b = false → B) : if b = true then A else B := by
  cases b with
  | true => exact iteT (h1 rfl)
  | false => exact iteF (h2 rfl)
section
variable {K : PySem.W.Frag} {H H' : Hp} {a : Addr} {xs ys : List V} {Q : VK}
theorem isT (h : SqT K H a xs) : TyX K H (.ref a) (.type "tuple") := by
  rcases h with (h | ⟨o, h⟩) | ⟨o, its, n, hk, hc, _⟩
  · exact .base (.tup h)
  · exact .fTuple h
  · exact .kTuple hk hc
theorem kit_tt {K : PySem.W.Frag} : PySem.W.kitOne K (.type "tuple") (.type "tuple") = some true := kit_ty (by decide +kernel)
theorem kit_ii {K : PySem.W.Frag} : PySem.W.kitOne K (.type "int") (.type "int") = some true := kit_ty (by decide +kernel)
theorem kit_ib {K : PySem.W.Frag} : PySem.W.kitOne K (.type "int") (.type "bool") = some false := kit_ty (by decide +kernel)
theorem six0 (n : Nat) : HT.sIx n 0 (some 1) = min 1 n := HT.sIx_nat n 0 1
/-- t[1:] -/
theorem sl1 (h : SqT K H a xs) (q : ∀ p H', Same H H' → SqT K H' p (xs.drop 1) → Q (.ref p) H') : rSlA K (.ref a) (some 1) none H Q := by
  refine ⟨a, xs, rfl, h, fun w => ?_, fun w p hp => ?_⟩
  · have e : xs.drop 1 = xs := by
      have w1 := w.1
      rw [six0] at w1
      have l : xs.length = 0 := by omega
      rw [List.eq_nil_of_length_eq_zero l]
      rfl
    exact q a H (Same.refl H) (by rw [e]; exact h)
  · refine q p _ (sm_new hp) (st_of ?_)
    rw [upd_same]
    unfold cutV
    rw [six0, HT.sIx_none]
    cases xs with
    | nil => rfl
    | cons x r =>
      rw [show min 1 (x :: r).length = 1 by rw [List.length_cons]; omega]
      show some (HO.tup (List.take ((x :: r).length - 1) r)) = some (HO.tup r)
      rw [List.length_cons, Nat.add_sub_cancel, List.take_length]
end
/-- a comprehension whose test no item passes -/
theorem lc_none {J : It} {n : Nat} {G : Hp → Prop} {Y : Nat → Hp → V → Hp → Prop} (w : Walk J n G Y) {g : TG} {tt : TT} {te : TE} {vs : List Nat} {σ : L2.St} {H1 : Hp} {D : Addr} {Qd : Hp → Prop}
    (hD : H1 D = none) (hG : ∀ H, Same H1 H → G H)
    (hs : ∀ i x H H' (Cy : V → Hp → Prop) (Cn : Hp → Prop), i < n → Same H1 H → Y i H x H' → (∀ H3, Same H' H3 → Cn H3) → g x (wipe σ vs) H' fun σ2 H2 => wipe σ2 vs = wipe σ vs ∧ tt σ2 H2 fun b H3 => if b = true then te σ2 H3 Cy else Cn H3)
    (hY : ∀ i H x H', Y i H x H' → Same H H') (hd : ∀ H, Same H1 H → H D = some (.lst []) → Qd H) :
    ∃ W : Nat → Nat → Hp → Prop, (∃ m, W 0 m (upd H1 D (.lst []))) ∧ ∀ i m H, W i m H →
      (J.stop i H ∧ Qd H) ∨ (J.go i H ∧ ∃ Nx : Hp → Prop, (∀ H', Nx H' → ∃ m', m' < m ∧ W (i + 1) m' H') ∧ ∀ x H', J.yld i H x H' → g x (wipe σ vs) H' fun σ2 H2 => wipe σ2 vs = wipe σ vs ∧ tt σ2 H2 fun b H3 =>
        if b = true then te σ2 H3 fun y H4 => ∃ acc, H4 D = some (.lst acc) ∧ acc.length < sizeLine ∧ Nx (upd H4 D (.lst (acc ++ [y]))) else Nx H3) := by
  refine lc_it w (fun i H => Same H1 H ∧ H D = some (.lst [])) ⟨sm_new hD, upd_same⟩ (fun i H _ h => hG H h.1) (fun i x H H' hi hP hy => ?_) fun H hP => hd H hP.1 hP.2
  exact hs i x H H' _ _ hi hP.1 hy fun H3 e3 => ⟨hP.1.trans ((hY i H x H' hy).trans e3), e3 _ _ (hY i H x H' hy _ _ hP.2)⟩
theorem yat_same {xs : List V} (i : Nat) (H : Hp) (x : V) (H' : Hp) (h : YAt xs i H x H') : Same H H' := h.1 ▸ Same.refl _
theorem ypair_same {xs ys : Nat → Option V} (i : Nat) (H : Hp) (x : V) (H' : Hp) (h : YPair xs ys i H x H') : Same H H' := by
  obtain ⟨T, x, y, _, hT, e, _⟩ := h
  subst e
  exact sm_new hT
section
variable {K : PySem.W.Frag} {H : Hp} {v : V}
abbrev rTerms (K : PySem.W.Frag) : Rp (List (Nat × List Int)) := rT K (rP K rN (rT K rI))
abbrev rSm (K : PySem.W.Frag) : Rp Sm := rP K (rTerms K) rI
abbrev rFx (K : PySem.W.Frag) : Rp (Nat × List Nat) := rP K rN (rT K rN)
end
/-- t[1:], by what it tells -/
def rSl1 (K : PySem.W.Frag) : V → Option Int → Option Int → Hp → VK → Prop := fun x lo hi H Q => ∃ a xs, x = .ref a ∧ SqT K H a xs ∧ lo = some 1 ∧ hi = none ∧ ∀ p H', Same H H' → SqT K H' p (xs.drop 1) → Q (.ref p) H'
theorem sl_one (K : PySem.W.Frag) {X : Cx} (h : X.K = K := by rfl) : SlR X (rSl1 K) := by
  subst h
  intro pins s σ H x v u1 u2 lo hi sl Q I rx hs p1 p2 q
  obtain ⟨a, xs, rfl, hT, rfl, rfl, q⟩ := q
  exact sl_tupA pins s σ H _ v u1 u2 _ _ sl Q I rx hs p1 p2 (sl1 hT q)
/-! ### rules with the written part said -/
section
variable (K : PySem.W.Frag) {X : Cx}
theorem ixT (h : X.K = K := by rfl) : IxR X (rIxT K) := h ▸ ix_tup
theorem ixL (h : X.K = K := by rfl) : IxR X (rIxL K) := h ▸ ix_list
theorem opEq (hu : X.A.units + 64 < cLine) (h : X.K = K := by rfl) : OpR X (compareOp .Eq) (rEqD K) := h ▸ op_eqD hu
theorem opNe (hu : X.A.units + 64 < cLine) (h : X.K = K := by rfl) : OpR X (compareOp .NotEq) (rNeD K) := h ▸ op_neD hu
theorem opNotIn (h : X.K = K := by rfl) : OpR X (compareOp .NotIn) (rIn K true) := h ▸ op_notIn_seq
theorem opCat (h : X.K = K := by rfl) : OpR X (binaryOp .Add) (rCatA K) := h ▸ op_catA
theorem crMx (hc : X.calm = true) (hu : X.A.units + 64 < cLine) (h : X.K = K := by rfl) : CallR X (.builtin "max") (rMx K) := h ▸ cr_mx hc hu
theorem crMn (hc : X.calm = true) (hu : X.A.units + 64 < cLine) (h : X.K = K := by rfl) : CallR X (.builtin "min") (rMn K) := h ▸ cr_mn hc hu
theorem piT {tg l : Expr} {tl : TE} (hl : PE X l tl) (h : X.K = K := by rfl) : PI X tg l (iTup K tl) := h ▸ pi_tup hl
theorem piL {tg l : Expr} {tl : TE} (hl : PE X l tl) (h : X.K = K := by rfl) : PI X tg l (iList K tl) := h ▸ pi_list hl
theorem pgT {es : List Expr} {k : Nat} {t : TGs} {n : Nat} {pos : Pos} (hc : X.calm = true) (hs : PGs X es t) (hn : (assignEach es X.env).length = n := by rfl) (hst : (assignEach es X.env).findIdx? (·.1) = none := by rfl) (h : X.K = K := by rfl) : PG X (.Tuple es k pos) (gTup K n t) := h ▸ pg_tup hc hs hn hst
end
/-! ### what is valid -/
structure VSizes (sizes : List Nat) : Prop where
  few : sizes.length ≤ 100
  all : ∀ z, z ∈ sizes → 1 ≤ z ∧ z ≤ 200
structure VTerms (sizes : List Nat) (ts : List (Nat × List Int)) : Prop where
  few : ts.length ≤ 100
  asc : ascT ts
  at1 : ∀ p, p ∈ ts → p.1 < sizes.length ∧ p.2.length = sizes.getD p.1 0
structure VSm (sizes : List Nat) (s : Sm) : Prop where
  terms : VTerms sizes s.1
  ws : ∀ p, p ∈ s.1 → (0 : Int) ∈ p.2 ∧ (∀ w, w ∈ p.2 → 0 ≤ w) ∧ ∃ w, w ∈ p.2 ∧ 0 < w
  bound : 1 ≤ s.2 ∨ s = ([], 0)
structure VSet (vs : List Nat) (n : Nat) : Prop where
  ne : vs ≠ []
  asc : asc vs
  lt : ∀ v, v ∈ vs → v < n
  few : vs.length ≤ 200
structure VFx (sizes : List Nat) (fx : List (Nat × List Nat)) : Prop where
  few : fx.length ≤ 100
  asc : fx.Pairwise fun a b => a.1 < b.1
  at1 : ∀ p, p ∈ fx → p.1 < sizes.length ∧ VSet p.2 (sizes.getD p.1 0)
end K36
end
section

set_option Elab.async false
set_option linter.all false
set_option maxRecDepth 100000
set_option maxHeartbeats 4000000
/-! The checks of the package, at valid arguments. -/
namespace K36
open PySem PySem.Spec PyProof.Rows L2
abbrev s_is_whole : Stmt := topS 8
abbrev N_is_whole : List Str := ["value"]
theorem sc_is_whole : FnScope N_is_whole ["value"] (defScope s_is_whole) := ⟨rfl, rfl, rfl, by decide +kernel, rfl, by decide +kernel, by decide +kernel⟩
abbrev s_is_from : Stmt := topS 9
abbrev N_is_from : List Str := ["value", "low", "high"]
theorem sc_is_from : FnScope N_is_from ["value", "low", "high"] (defScope s_is_from) := ⟨rfl, rfl, rfl, by decide +kernel, rfl, by decide +kernel, by decide +kernel⟩
abbrev s_check_sizes : Stmt := topS 10
abbrev N_check_sizes : List Str := ["value", "item"]
theorem sc_check_sizes : FnScope N_check_sizes ["value"] (defScope s_check_sizes) := ⟨rfl, rfl, rfl, by decide +kernel, rfl, by decide +kernel, by decide +kernel⟩
abbrev s_is_weights : Stmt := topS 11
abbrev N_is_weights : List Str := ["value", "size", "item"]
theorem sc_is_weights : FnScope N_is_weights ["value", "size"] (defScope s_is_weights) := ⟨rfl, rfl, rfl, by decide +kernel, rfl, by decide +kernel, by decide +kernel⟩
/-- the constants of the top -/
structure Cs (K : PySem.W.Frag) (mg : Str → Option Value) : Prop where
  mc : ∃ t, mg "MOST_CHOICES" = some (.int 100 t)
  mv : ∃ t, mg "MOST_VALUES" = some (.int 200 t)
  ms : ∃ t, mg "MOST_SUMS" = some (.int 40000 t)
  no : ∃ n e, mg "NOTHING" = some (.ref n) ∧ (∀ H, SqT K H n [.ref e, .int 0]) ∧ ∀ H, SqT K H e []
section
variable {P : Program} {w : World} {K : PySem.W.Frag} {mg : Str → Option Value} {base : Heap}
def sp_is_whole : Sp := fun vs H Q _ => ∃ n, vs = [.int n] ∧ Q (.bl true) H
theorem ok_is_whole {f : Addr} {fd : FuncData} (F : Fun K "is_whole" "is_whole" s_is_whole f fd) (B : BI mg) : FnOk P w K mg base CX0 1 f fd ["value"] sp_is_whole := by
  refine F.ok sc_is_whole (fun vs H Q E h => ?_) (fun cdv A outer s H vs Q E hr h => ?_)
  · obtain ⟨n, rfl, _⟩ := h
    rfl
  · obtain ⟨n, rfl, q⟩ := h
    refine ⟨_, (pss_one (ps_ret (pe_and (pe_callB call_isi (by rfl) B.isinstance (by decide +kernel) (pa_cons (pv 0) (pa_cons (pe_bltn (v := .ty "int") (u := .type "int") (by rfl) B.int (by decide +kernel) rfl) pa_nil))) (pe_one (pe_not (pe_callB call_isi (by rfl) B.isinstance (by decide +kernel) (pa_cons (pv 0) (pa_cons (pe_bltn (v := .ty "bool") (u := .type "bool") (by rfl) B.bool (by decide +kernel) rfl) pa_nil)))))))), ?_⟩
    exact ⟨_, rfl, .int n, .ty "int", _, _, true, rfl, .ty _, .base (.int n), kit_ii, true, rfl, iteT ⟨_, rfl, .int n, .ty "bool", _, _, false, rfl, .ty _, .base (.int n), kit_ib, false, rfl, q⟩⟩
def sp_is_from : Sp := fun vs H Q _ => ∃ n lo hi, vs = [.int n, .int lo, .int hi] ∧ lo ≤ n ∧ n ≤ hi ∧ Q (.bl true) H
theorem ok_is_from {f : Addr} {fd : FuncData} (F : Fun K "is_from" "is_from" s_is_from f fd) (D_is_whole : Dk P w K mg base 1 "is_whole" ["value"] sp_is_whole) : FnOk P w K mg base CX0 2 f fd ["value", "low", "high"] sp_is_from := by
  refine F.ok sc_is_from (fun vs H Q E h => ?_) (fun cdv A outer s H vs Q E hr h => ?_)
  · obtain ⟨n, lo, hi, rfl, _⟩ := h
    rfl
  · obtain ⟨n, lo, hi, rfl, h1, h2, q⟩ := h
    refine ⟨_, (pss_one (ps_ret (pe_and (pe_callD D_is_whole hr (pa_cons (pv 0) pa_nil)) (pe_one (pe_chain op_le op_le (pv 1) (pv 0) (pv 2)))))), ?_⟩
    refine ⟨_, rfl, n, rfl, true, rfl, iteT ⟨_, rfl, _, rfl, lo, n, rfl, rfl, _, rfl, iteD h1 ⟨_, rfl, n, hi, rfl, rfl, ?_⟩⟩⟩
    show Q (.bl (decide (n ≤ hi))) H
    rw [decide_eq_true h2]
    exact q
def sp_check_sizes (K : PySem.W.Frag) : Sp := fun vs H Q _ => ∃ v sizes, vs = [v] ∧ rT K rN H v sizes ∧ VSizes sizes ∧ ∀ H', Same H H' → Q v H'
theorem ok_check_sizes {f : Addr} {fd : FuncData} (F : Fun K "check_sizes" "check_sizes" s_check_sizes f fd) (B : BI mg) (C : Cs K mg) (D_is_from : Dk P w K mg base 2 "is_from" ["value", "low", "high"] sp_is_from) : FnOk P w K mg base CX0 3 f fd ["value"] (sp_check_sizes K) := by
  obtain ⟨_, c_MOST_CHOICES⟩ := C.mc
  obtain ⟨_, c_MOST_VALUES⟩ := C.mv
  refine F.ok sc_check_sizes (fun vs H Q E h => ?_) (fun cdv A outer s H vs Q E hr h => ?_)
  · obtain ⟨v, sizes, rfl, _⟩ := h
    rfl
  · obtain ⟨v, sizes, rfl, ⟨a, us, rfl, hT, hp⟩, ok, q⟩ := h
    have lu : us.length = sizes.length := hp.length
    refine ⟨_, (pss_cons (ps_if (PW.pt (pw_or (pt_not (pt_val (pe_callB call_isi (by rfl) B.isinstance (by decide +kernel) (pa_cons (pv 0) (pa_cons (pe_bltn (v := .ty "tuple") (u := .type "tuple") (by rfl) B.tuple (by decide +kernel) rfl) pa_nil))))) (pw_or1 (pt_cmpR op_gt (pe_callB call_len_seq (by rfl) B.len (by decide +kernel) (pa_cons (pv 0) pa_nil)) (pe_glob (v := .int 100) rfl c_MOST_CHOICES ⟨_, rfl⟩) (nomark _))))) (pss_one ps_never) pss_nil)
      (pss_cons (ps_if (pt_cmpR op_gt (pe_callB call_len_seq (by rfl) B.len (by decide +kernel) (pa_cons (pe_lc (own := [("item", 1)]) (g := gName 1) rfl sc_check_sizes.nd (piT K (pv 0)) (blkOk_by (own := [("item", 1)]) (N := N_check_sizes) (sc := (defScope s_check_sizes)) (by decide +kernel)) (fun _ _ _ _ _ => (pg_name (i := 1) sc_check_sizes.nd rfl (Or.inl rfl))) (fun _ _ _ _ _ => pts_one (pt_not (pt_val (pe_callD D_is_from hr (pa_cons (pv 1) (pa_cons pe_int (pa_cons (pe_glob (v := .int 200) rfl c_MOST_VALUES ⟨_, rfl⟩) pa_nil))))))) (fun _ _ _ _ _ => pe_int)) pa_nil)) pe_int (nomark _)) (pss_one ps_never) pss_nil)
      (pss_one (ps_ret (pv 0))))), ?_⟩
    refine ⟨_, rfl, .ref a, .ty "tuple", _, _, true, rfl, .ty _, isT hT, kit_tt, true, rfl, iteF ⟨_, rfl, a, us, rfl, .inr hT, us.length, 100, rfl, rfl, _, rfl, iteN (by have := ok.few; omega) ?_⟩⟩
    refine ⟨.ref a, rfl, a, rfl, ⟨us, hT⟩, fun D nD => lc_none walk_tup nD (fun H1 e => (tk_of e).sq hT) (fun i x H1 H2 Cy Cn hi e hy cn => ?_) yat_same fun H1 e hl => ?_⟩
    · obtain ⟨rfl, hx⟩ := hy
      obtain ⟨z, hz, rz⟩ := pd_get hp hx
      subst rz
      have hz' := ok.all z (List.mem_of_getElem? hz)
      exact ⟨rfl, _, rfl, (z : Int), 1, 200, rfl, by omega, by omega, true, rfl, iteF (cn _ (Same.refl _))⟩
    · exact ⟨D, [], rfl, .inl (sl_of hl), 0, 0, rfl, rfl, _, rfl, iteN (by decide) ⟨_, rfl, q H1 e⟩⟩
def sp_is_weights (K : PySem.W.Frag) : Sp := fun vs H Q _ => ∃ v ws, vs = [v, .int (ws.length : Nat)] ∧ rT K rI H v ws ∧ ∀ H', Same H H' → Q (.bl true) H'
theorem ok_is_weights {f : Addr} {fd : FuncData} (F : Fun K "is_weights" "is_weights" s_is_weights f fd) (B : BI mg) (D_is_whole : Dk P w K mg base 1 "is_whole" ["value"] sp_is_whole) : FnOk P w K mg base CX0 3 f fd ["value", "size"] (sp_is_weights K) := by
  refine F.ok sc_is_weights (fun vs H Q E h => ?_) (fun cdv A outer s H vs Q E hr h => ?_)
  · obtain ⟨v, ws, rfl, _⟩ := h
    rfl
  · obtain ⟨v, ws, rfl, ⟨a, us, rfl, hT, hp⟩, q⟩ := h
    have lu : us.length = ws.length := hp.length
    refine ⟨_, (pss_cons (ps_if (PW.pt (pw_or (pt_not (pt_val (pe_callB call_isi (by rfl) B.isinstance (by decide +kernel) (pa_cons (pv 0) (pa_cons (pe_bltn (v := .ty "tuple") (u := .type "tuple") (by rfl) B.tuple (by decide +kernel) rfl) pa_nil))))) (pw_or1 (pt_cmpR op_ne (pe_callB call_len_seq (by rfl) B.len (by decide +kernel) (pa_cons (pv 0) pa_nil)) (pv 1) (nomark _))))) (pss_one (ps_ret pe_bl)) pss_nil)
      (pss_one (ps_ret (pe_cmpR op_eq (pe_callB call_len_seq (by rfl) B.len (by decide +kernel) (pa_cons (pe_lc (own := [("item", 2)]) (g := gName 2) rfl sc_is_weights.nd (piT K (pv 0)) (blkOk_by (own := [("item", 2)]) (N := N_is_weights) (sc := (defScope s_is_weights)) (by decide +kernel)) (fun _ _ _ _ _ => (pg_name (i := 2) sc_is_weights.nd rfl (Or.inl rfl))) (fun _ _ _ _ _ => pts_one (pt_not (pt_val (pe_callD D_is_whole hr (pa_cons (pv 2) pa_nil))))) (fun _ _ _ _ _ => pe_int)) pa_nil)) pe_int (nomark _))))), ?_⟩
    refine ⟨_, rfl, .ref a, .ty "tuple", _, _, true, rfl, .ty _, isT hT, kit_tt, true, rfl, iteF ⟨_, rfl, a, us, rfl, .inr hT, _, rfl, rfl, _, rfl, ?_⟩⟩
    rw [lu, decide_eq_true rfl]
    refine iteF ⟨.ref a, rfl, a, rfl, ⟨us, hT⟩, fun D nD => lc_none walk_tup nD (fun H1 e => (tk_of e).sq hT) (fun i x H1 H2 Cy Cn hi e hy cn => ?_) yat_same fun H1 e hl => ?_⟩
    · obtain ⟨rfl, hx⟩ := hy
      obtain ⟨z, hz, rz⟩ := pd_get hp hx
      subst rz
      exact ⟨rfl, _, rfl, z, rfl, true, rfl, iteF (cn _ (Same.refl _))⟩
    · exact ⟨D, [], rfl, .inl (sl_of hl), rfl, q H1 e⟩
end
end K36
end
section

set_option Elab.async false
set_option linter.all false
set_option maxRecDepth 100000
set_option maxHeartbeats 4000000
/-! The checks of the package, at valid arguments: sums, sets, fixed. -/
namespace K36
open PySem PySem.Spec PyProof.Rows L2
abbrev s_is_terms : Stmt := topS 12
abbrev N_is_terms : List Str := ["sizes", "value", "term", "near", "far"]
theorem sc_is_terms : FnScope N_is_terms ["sizes", "value"] (defScope s_is_terms) := ⟨rfl, rfl, rfl, by decide +kernel, rfl, by decide +kernel, by decide +kernel⟩
abbrev s_is_sum : Stmt := topS 13
abbrev N_is_sum : List Str := ["sizes", "value", "_choice", "weights"]
theorem sc_is_sum : FnScope N_is_sum ["sizes", "value"] (defScope s_is_sum) := ⟨rfl, rfl, rfl, by decide +kernel, rfl, by decide +kernel, by decide +kernel⟩
abbrev s_is_set : Stmt := topS 14
abbrev N_is_set : List Str := ["value", "size", "item", "near", "far"]
theorem sc_is_set : FnScope N_is_set ["value", "size"] (defScope s_is_set) := ⟨rfl, rfl, rfl, by decide +kernel, rfl, by decide +kernel, by decide +kernel⟩
abbrev s_check_sums : Stmt := topS 17
abbrev N_check_sums : List Str := ["sizes", "value", "line"]
theorem sc_check_sums : FnScope N_check_sums ["sizes", "value"] (defScope s_check_sums) := ⟨rfl, rfl, rfl, by decide +kernel, rfl, by decide +kernel, by decide +kernel⟩
abbrev s_is_pair : Stmt := topS 18
abbrev N_is_pair : List Str := ["sizes", "value"]
theorem sc_is_pair : FnScope N_is_pair ["sizes", "value"] (defScope s_is_pair) := ⟨rfl, rfl, rfl, by decide +kernel, rfl, by decide +kernel, by decide +kernel⟩
abbrev s_check_fixed : Stmt := topS 19
abbrev N_check_fixed : List Str := ["sizes", "value", "near", "far", "pair"]
theorem sc_check_fixed : FnScope N_check_fixed ["sizes", "value"] (defScope s_check_fixed) := ⟨rfl, rfl, rfl, by decide +kernel, rfl, by decide +kernel, by decide +kernel⟩
abbrev s_check_problem : Stmt := topS 20
abbrev N_check_problem : List Str := ["sizes", "sums", "fixed"]
theorem sc_check_problem : FnScope N_check_problem ["sizes", "sums", "fixed"] (defScope s_check_problem) := ⟨rfl, rfl, rfl, by decide +kernel, rfl, by decide +kernel, by decide +kernel⟩
theorem asc_drop {α : Type} {r : α → α → Prop} {l : List α} (h : l.Pairwise r) {i : Nat} {x y : α} (hx : l[i]? = some x) (hy : (l.drop 1)[i]? = some y) : r x y := by
  rw [List.getElem?_drop, Nat.add_comm] at hy
  obtain ⟨h1, e1⟩ := List.getElem?_eq_some_iff.mp hx
  obtain ⟨h2, e2⟩ := List.getElem?_eq_some_iff.mp hy
  rw [← e1, ← e2]
  exact List.pairwise_iff_getElem.mp h i (i + 1) h1 h2 (Nat.lt_succ_self i)
section
variable {P : Program} {w : World} {K : PySem.W.Frag} {mg : Str → Option Value} {base : Heap}
def sp_is_terms (K : PySem.W.Frag) : Sp := fun vs H Q _ => ∃ v u sizes ts, vs = [v, u] ∧ rT K rN H v sizes ∧ rTerms K H u ts ∧ VTerms sizes ts ∧ ∀ H', Same H H' → Q (.bl true) H'
theorem ok_is_terms {f : Addr} {fd : FuncData} (F : Fun K "is_terms" "is_terms" s_is_terms f fd) (B : BI mg) (D_is_from : Dk P w K mg base 2 "is_from" ["value", "low", "high"] sp_is_from) (D_is_weights : Dk P w K mg base 3 "is_weights" ["value", "size"] (sp_is_weights K)) : FnOk P w K mg base CX0 4 f fd ["sizes", "value"] (sp_is_terms K) := by
  refine F.ok sc_is_terms (fun vs H Q E h => ?_) (fun cdv A outer s H vs Q E hr h => ?_)
  · obtain ⟨v, u, sizes, ts, rfl, _⟩ := h
    rfl
  · obtain ⟨_, _, sizes, ts, rfl, ⟨a, us, rfl, hT, hp⟩, ⟨b, ws, rfl, hT2, hp2⟩, ok, q⟩ := h
    have lu : us.length = sizes.length := hp.length
    refine ⟨_, (pss_cons (ps_if (pt_not (pt_val (pe_callB call_isi (by rfl) B.isinstance (by decide +kernel) (pa_cons (pv 1) (pa_cons (pe_bltn (v := .ty "tuple") (u := .type "tuple") (by rfl) B.tuple (by decide +kernel) rfl) pa_nil))))) (pss_one (ps_ret pe_bl)) pss_nil)
      (pss_cons (ps_for PassesOwn.never rfl (piT K (pv 1)) (pg_name (i := 2) sc_is_terms.nd rfl (Or.inl rfl)) (pss_cons (ps_if (PW.pt (pw_or (pt_not (pt_val (pe_callB call_isi (by rfl) B.isinstance (by decide +kernel) (pa_cons (pv 2) (pa_cons (pe_bltn (v := .ty "tuple") (u := .type "tuple") (by rfl) B.tuple (by decide +kernel) rfl) pa_nil))))) (pw_or (pt_cmpR op_ne (pe_callB call_len_seq (by rfl) B.len (by decide +kernel) (pa_cons (pv 2) pa_nil)) pe_int (nomark _)) (pw_or1 (pt_not (pt_val (pe_callD D_is_from hr (pa_cons (pe_ix (ixT K) (pv 2) pe_int (fun _ _ => rfl)) (pa_cons pe_int (pa_cons (pe_op op_sub (pe_callB call_len_seq (by rfl) B.len (by decide +kernel) (pa_cons (pv 0) pa_nil)) pe_int) pa_nil)))))))))) (pss_one (ps_ret pe_bl)) pss_nil)
      (pss_one (ps_if (pt_not (pt_val (pe_callD D_is_weights hr (pa_cons (pe_ix (ixT K) (pv 2) pe_int (fun _ _ => rfl)) (pa_cons (pe_ix (ixT K) (pv 0) (pe_ix (ixT K) (pv 2) pe_int (fun _ _ => rfl)) (fun _ _ => rfl)) pa_nil))))) (pss_one (ps_ret pe_bl)) pss_nil))))
      (pss_one (ps_ret (pe_cmpR op_eq (pe_callB call_len_seq (by rfl) B.len (by decide +kernel) (pa_cons (pe_lc (own := [("near", 3), ("far", 4)]) (g := gTup K 2 (gCons (gName 3) (gCons (gName 4) gNil))) rfl sc_is_terms.nd (RZ.pi_zipA (by rfl) B.zip (pa_cons (pv 1) (pa_cons (pe_slice (sl_one K) (pv 1) (po_some pe_int) po_none) pa_nil))) (blkOk_by (own := [("near", 3), ("far", 4)]) (N := N_is_terms) (sc := (defScope s_is_terms)) (by decide +kernel)) (fun _ _ _ _ _ => (pgT K rfl (pgs_cons (pg_name (i := 3) sc_is_terms.nd rfl (Or.inl rfl)) (pgs_cons (pg_name (i := 4) sc_is_terms.nd rfl (Or.inl rfl)) pgs_nil)))) (fun _ _ _ _ _ => pts_one (pt_cmpR op_ge (pe_ix (ixT K) (pv 3) pe_int (fun _ _ => rfl)) (pe_ix (ixT K) (pv 4) pe_int (fun _ _ => rfl)) (nomark _))) (fun _ _ _ _ _ => pe_int)) pa_nil)) pe_int (nomark _)))))), ?_⟩
    refine ⟨_, rfl, .ref b, .ty "tuple", _, _, true, rfl, .ty _, isT hT2, kit_tt, true, rfl, iteF ?_⟩
    refine ⟨_, rfl, b, rfl, ⟨ws, hT2⟩, for_tup (xs := ws) (fun i σ H' => Same H H' ∧ ∃ y2 y3 y4, σ = [some (.ref a), some (.ref b), y2, y3, y4]) ⟨Same.refl H, none, none, none, rfl⟩ (fun i σ H' _ h => (tk_of h.1).sq hT2) (fun i x σ H1 hx hP => ?_) fun σ H1 hP => ?_⟩
    · obtain ⟨e1, y2, y3, y4, rfl⟩ := hP
      obtain ⟨p, hpi, c, x1, x2, rfl, hc, hx1, ⟨d, zs, rfl, hd, hz⟩⟩ := pd_get hp2 hx
      have hx1 : x1 = .int (p.1 : Nat) := hx1
      subst hx1
      obtain ⟨lt, hl⟩ := ok.at1 p (List.mem_of_getElem? hpi)
      have hc1 := (tk_of e1).sq hc
      have hz1 : Paired (rI H1) zs p.2 := up_all (tk_of e1) hz
      obtain ⟨z, hzs, rz⟩ := rT_at hp (List.getElem?_eq_getElem lt : sizes[p.1]? = some sizes[p.1])
      have rz : z = .int (sizes[p.1] : Nat) := rz
      subst rz
      have hl2 : p.2.length = sizes[p.1] := by rw [hl]; simp [List.getD_eq_getElem?_getD, lt]
      refine ⟨_, rfl, .ref c, .ty "tuple", _, _, true, rfl, .ty _, isT hc1, kit_tt, true, rfl, iteF ⟨_, rfl, c, _, rfl, .inr hc1, rfl, _, rfl, iteF ?_⟩⟩
      refine ⟨_, rfl, c, [.int (p.1 : Nat), .ref d], 0, _, rfl, rfl, hc1, atI_nat (j := 0) rfl, _, rfl, a, us, rfl, .inr ((tk_of e1).sq hT), us.length, 1, rfl, rfl, p.1, 0, (us.length : Nat) - 1, rfl, by omega, by rw [lu]; omega, true, rfl, iteF ?_⟩
      refine ⟨_, rfl, c, [.int (p.1 : Nat), .ref d], 1, _, rfl, rfl, hc1, atI_nat (j := 1) rfl, _, rfl, _, rfl, c, [.int (p.1 : Nat), .ref d], 0, _, rfl, rfl, hc1, atI_nat (j := 0) rfl, a, us, p.1, _, rfl, rfl, (tk_of e1).sq hT, hzs, ?_⟩
      refine ⟨.ref d, p.2, by rw [hl2] <;> rfl, ⟨d, zs, rfl, (tk_of e1).sq hd, hz1⟩, fun H2 e2 => ⟨true, rfl, iteF ⟨e1.trans e2, some (.ref c), y3, y4, rfl⟩⟩⟩
    · obtain ⟨e1, y2, y3, y4, rfl⟩ := hP
      have hT3 := (tk_of e1).sq hT2
      refine ⟨_, rfl, _, rfl, 1, rfl, b, ws, rfl, hT3, rfl, rfl, fun p H2 e2 hp3 => ⟨b, p, ws, ws.drop 1, rfl, .inr ⟨(tk_of e2).sq hT3, hp3, fun D nD => ?_⟩⟩⟩
      have e12 := e1.trans e2
      refine lc_none (walk_zipT rfl) nD (fun H3 e3 => ⟨(tk_of e3).sq ((tk_of e2).sq hT3), (tk_of e3).sq hp3⟩) (fun i x H3 H4 Cy Cn hi e3 hy cn => ?_) ypair_same fun H3 e3 hl => ?_
      · obtain ⟨T, x, y, rfl, nT, rfl, hx, hy⟩ := hy
        have hy' : ws[i + 1]? = some y := drop1 hy
        obtain ⟨p1, hp1, c1, u1, u2, rfl, hc1, r1, _⟩ := pd_get hp2 hx
        obtain ⟨p2, hp2', c2, v1, v2, rfl, hc2, r2, _⟩ := pd_get hp2 hy'
        have r1 : u1 = .int (p1.1 : Nat) := r1
        have r2 : v1 = .int (p2.1 : Nat) := r2
        subst r1; subst r2
        have lt : p1.1 < p2.1 := asc_drop ok.asc hp1 (drop1' hp2')
        have k4 : Tk H (upd H3 T (.tup [.ref c1, .ref c2])) := (tk_of (e12.trans e3)).trans (tk_new nT)
        refine ⟨T, _, rfl, st_of upd_same, rfl, _, _, rfl, _, _, rfl, rfl, rfl, ?_⟩
        exact ⟨_, rfl, c1, _, 0, _, rfl, rfl, k4.sq hc1, atI_nat (j := 0) rfl, _, rfl, c2, _, 0, _, rfl, rfl, k4.sq hc2, atI_nat (j := 0) rfl, p1.1, p2.1, rfl, rfl, _, rfl, iteN (by omega) (cn _ (Same.refl _))⟩
      · exact ⟨D, [], rfl, .inl (sl_of hl), rfl, q H3 (e12.trans e3)⟩
def sp_is_sum (K : PySem.W.Frag) : Sp := fun vs H Q _ => ∃ v u sizes one, vs = [v, u] ∧ rT K rN H v sizes ∧ rSm K H u one ∧ VSm sizes one ∧ ∀ H', Same H H' → Q (.bl true) H'
theorem ok_is_sum {f : Addr} {fd : FuncData} (F : Fun K "is_sum" "is_sum" s_is_sum f fd) (B : BI mg) (C : Cs K mg) (D_is_whole : Dk P w K mg base 1 "is_whole" ["value"] sp_is_whole) (D_is_terms : Dk P w K mg base 4 "is_terms" ["sizes", "value"] (sp_is_terms K)) : FnOk P w K mg base CX0 5 f fd ["sizes", "value"] (sp_is_sum K) := by
  obtain ⟨nN, eN, c_NOTHING, hN, hE⟩ := C.no
  refine F.ok sc_is_sum (fun vs H Q E h => ?_) (fun cdv A outer s H vs Q E hr h => ?_)
  · obtain ⟨v, u, sizes, ts, rfl, _⟩ := h
    rfl
  · obtain ⟨v, _, sizes, one, rfl, hv, ⟨a, x1, x2, rfl, hT, hx1, hx2⟩, ok, q⟩ := h
    have hx2 : x2 = .int one.2 := hx2
    subst hx2
    refine ⟨_, (pss_cons (ps_if (PW.pt (pw_or (pt_not (pt_val (pe_callB call_isi (by rfl) B.isinstance (by decide +kernel) (pa_cons (pv 1) (pa_cons (pe_bltn (v := .ty "tuple") (u := .type "tuple") (by rfl) B.tuple (by decide +kernel) rfl) pa_nil))))) (pw_or (pt_cmpR op_ne (pe_callB call_len_seq (by rfl) B.len (by decide +kernel) (pa_cons (pv 1) pa_nil)) pe_int (nomark _)) (pw_or1 (pt_not (pt_val (pe_callD D_is_whole hr (pa_cons (pe_ix (ixT K) (pv 1) pe_int (fun _ _ => rfl)) pa_nil)))))))) (pss_one (ps_ret pe_bl)) pss_nil)
      (pss_cons (ps_if (pt_not (pt_val (pe_callD D_is_terms hr (pa_cons (pv 0) (pa_cons (pe_ix (ixT K) (pv 1) pe_int (fun _ _ => rfl)) pa_nil))))) (pss_one (ps_ret pe_bl)) pss_nil)
      (pss_cons (ps_if (pt_cmpR op_gt (pe_callB call_len_seq (by rfl) B.len (by decide +kernel) (pa_cons (pe_lc (own := [("_choice", 2), ("weights", 3)]) (g := gTup K 2 (gCons (gName 2) (gCons (gName 3) gNil))) rfl sc_is_sum.nd (piT K (pe_ix (ixT K) (pv 1) pe_int (fun _ _ => rfl))) (blkOk_by (own := [("_choice", 2), ("weights", 3)]) (N := N_is_sum) (sc := (defScope s_is_sum)) (by decide +kernel)) (fun _ _ _ _ _ => (pgT K rfl (pgs_cons (pg_name (i := 2) sc_is_sum.nd rfl (Or.inl rfl)) (pgs_cons (pg_name (i := 3) sc_is_sum.nd rfl (Or.inl rfl)) pgs_nil)))) (fun _ _ _ _ _ => pts_one (PW.pt (pw_or (pt_cmpR op_ne (pe_callB (crMn K rfl hr.units) (by rfl) B.min (by decide +kernel) (pa_cons (pv 3) pa_nil)) pe_int (nomark _)) (pw_or1 (pt_cmpR op_eq (pe_callB (crMx K rfl hr.units) (by rfl) B.max (by decide +kernel) (pa_cons (pv 3) pa_nil)) pe_int (nomark _)))))) (fun _ _ _ _ _ => pe_int)) pa_nil)) pe_int (nomark _)) (pss_one (ps_ret pe_bl)) pss_nil)
      (pss_one (ps_ret (pe_or (pe_cmpR op_ge (pe_ix (ixT K) (pv 1) pe_int (fun _ _ => rfl)) pe_int (nomark _)) (pe_one (pe_cmpR (opEq K hr.units) (pv 1) (pe_glob (v := .ref nN) rfl c_NOTHING rfl) (nomark _))))))))), ?_⟩
    refine ⟨_, rfl, .ref a, .ty "tuple", _, _, true, rfl, .ty _, isT hT, kit_tt, true, rfl, iteF ⟨_, rfl, a, _, rfl, .inr hT, rfl, _, rfl, iteF ?_⟩⟩
    refine ⟨_, rfl, a, _, 1, _, rfl, rfl, hT, atI_nat (j := 1) rfl, one.2, rfl, true, rfl, iteF ?_⟩
    refine ⟨_, rfl, _, rfl, a, _, 0, _, rfl, rfl, hT, atI_nat (j := 0) rfl, v, x1, sizes, one.1, rfl, hv, hx1, ok.terms, fun H1 e1 => ⟨true, rfl, iteF ?_⟩⟩
    have hT1 := (tk_of e1).sq hT
    obtain ⟨b, ws, rfl, hT2, hp2⟩ := Up.up (tk_of e1) hx1
    refine ⟨_, rfl, a, _, 0, _, rfl, rfl, hT1, atI_nat (j := 0) rfl, b, rfl, ⟨ws, hT2⟩, fun D nD => lc_none walk_tup nD (fun H2 e2 => (tk_of e2).sq hT2) (fun i x H2 H3 Cy Cn hi e2 hy cn => ?_) yat_same fun H2 e2 hl => ?_⟩
    · obtain ⟨rfl, hx⟩ := hy
      obtain ⟨p, hpi, c, y1, y2, rfl, hc, hy1, hy2⟩ := pd_get hp2 hx
      obtain ⟨d, rfl, hd⟩ := rT_int (Up.up (tk_of e2) hy2)
      obtain ⟨w1, w2, w3, w4, w5⟩ := ok.ws p (List.mem_of_getElem? hpi)
      have ne : p.2 ≠ [] := List.ne_nil_of_mem w1
      have m0 : mn p.2 = 0 := by
        have h1 := mn_le w1
        have h2 := w2 _ (mn_mem ne)
        omega
      have m1 : ¬ mx p.2 = 0 := by
        have h1 := le_mx w4
        omega
      refine g_pair ((tk_of e2).sq hc) ⟨rfl, _, rfl, d, p.2, rfl, .inr hd, ne, rfl, _, rfl, ?_⟩
      rw [m0]
      refine iteF ⟨_, rfl, d, p.2, rfl, .inr hd, ne, rfl, _, rfl, iteN (fun z => m1 (V.int.inj z)) (cn _ (Same.refl _))⟩
    · refine ⟨D, [], rfl, .inl (sl_of hl), 0, 0, rfl, rfl, _, rfl, iteN (by decide) ?_⟩
      have e3 := e1.trans e2
      have hT3 := (tk_of e3).sq hT
      refine ⟨_, rfl, a, _, 1, _, rfl, rfl, hT3, atI_nat (j := 1) rfl, one.2, 1, rfl, rfl, _, rfl, ?_⟩
      by_cases hb : (1 : Int) ≤ one.2
      · rw [decide_eq_true hb]
        exact iteT (q H2 e3)
      · rw [decide_eq_false hb]
        rcases ok.bound with h | h
        · exact absurd h hb
        · refine iteF ⟨_, rfl, .tuple [.tuple [], .int 0], .tuple [.tuple [], .int 0], ?_, .tup (hN H2) (.cons (.tup (hE H2) .nil) (.cons (.int 0) .nil)), rfl, rfl, q H2 e3⟩
          subst h
          cases hp2
          exact .tup hT3 (.cons (.tup ((tk_of e2).sq hT2) .nil) (.cons (.int 0) .nil))
def sp_is_set (K : PySem.W.Frag) : Sp := fun vs H Q _ => ∃ v ns n, vs = [v, .int (n : Nat)] ∧ rT K rN H v ns ∧ VSet ns n ∧ ∀ H', Same H H' → Q (.bl true) H'
theorem ok_is_set {f : Addr} {fd : FuncData} (F : Fun K "is_set" "is_set" s_is_set f fd) (B : BI mg) (D_is_from : Dk P w K mg base 2 "is_from" ["value", "low", "high"] sp_is_from) : FnOk P w K mg base CX0 3 f fd ["value", "size"] (sp_is_set K) := by
  refine F.ok sc_is_set (fun vs H Q E h => ?_) (fun cdv A outer s H vs Q E hr h => ?_)
  · obtain ⟨v, ns, n, rfl, _⟩ := h
    rfl
  · obtain ⟨_, ns, n, rfl, ⟨a, us, rfl, hT, hp⟩, ok, q⟩ := h
    have lu : us.length = ns.length := hp.length
    have l0 : us.length ≠ 0 := by
      rw [lu]
      exact fun z => ok.ne (List.eq_nil_of_length_eq_zero z)
    refine ⟨_, (pss_cons (ps_if (PW.pt (pw_or (pt_not (pt_val (pe_callB call_isi (by rfl) B.isinstance (by decide +kernel) (pa_cons (pv 0) (pa_cons (pe_bltn (v := .ty "tuple") (u := .type "tuple") (by rfl) B.tuple (by decide +kernel) rfl) pa_nil))))) (pw_or1 (pt_cmpR op_eq (pe_callB call_len_seq (by rfl) B.len (by decide +kernel) (pa_cons (pv 0) pa_nil)) pe_int (nomark _))))) (pss_one (ps_ret pe_bl)) pss_nil)
      (pss_cons (ps_if (pt_cmpR op_gt (pe_callB call_len_seq (by rfl) B.len (by decide +kernel) (pa_cons (pe_lc (own := [("item", 2)]) (g := gName 2) rfl sc_is_set.nd (piT K (pv 0)) (blkOk_by (own := [("item", 2)]) (N := N_is_set) (sc := (defScope s_is_set)) (by decide +kernel)) (fun _ _ _ _ _ => (pg_name (i := 2) sc_is_set.nd rfl (Or.inl rfl))) (fun _ _ _ _ _ => pts_one (pt_not (pt_val (pe_callD D_is_from hr (pa_cons (pv 2) (pa_cons pe_int (pa_cons (pe_op op_sub (pv 1) pe_int) pa_nil))))))) (fun _ _ _ _ _ => pe_int)) pa_nil)) pe_int (nomark _)) (pss_one (ps_ret pe_bl)) pss_nil)
      (pss_one (ps_ret (pe_cmpR op_eq (pe_callB call_len_seq (by rfl) B.len (by decide +kernel) (pa_cons (pe_lc (own := [("near", 3), ("far", 4)]) (g := gTup K 2 (gCons (gName 3) (gCons (gName 4) gNil))) rfl sc_is_set.nd (RZ.pi_zipA (by rfl) B.zip (pa_cons (pv 0) (pa_cons (pe_slice (sl_one K) (pv 0) (po_some pe_int) po_none) pa_nil))) (blkOk_by (own := [("near", 3), ("far", 4)]) (N := N_is_set) (sc := (defScope s_is_set)) (by decide +kernel)) (fun _ _ _ _ _ => (pgT K rfl (pgs_cons (pg_name (i := 3) sc_is_set.nd rfl (Or.inl rfl)) (pgs_cons (pg_name (i := 4) sc_is_set.nd rfl (Or.inl rfl)) pgs_nil)))) (fun _ _ _ _ _ => pts_one (pt_cmpR op_ge (pv 3) (pv 4) (nomark _))) (fun _ _ _ _ _ => pe_int)) pa_nil)) pe_int (nomark _)))))), ?_⟩
    refine ⟨_, rfl, .ref a, .ty "tuple", _, _, true, rfl, .ty _, isT hT, kit_tt, true, rfl, iteF ⟨_, rfl, a, _, rfl, .inr hT, rfl, _, rfl, iteN (fun z => l0 (by have z' := V.int.inj z; omega)) ?_⟩⟩
    refine ⟨.ref a, rfl, a, rfl, ⟨us, hT⟩, fun D nD => lc_none walk_tup nD (fun H1 e => (tk_of e).sq hT) (fun i x H1 H2 Cy Cn hi e hy cn => ?_) yat_same fun H1 e hl => ?_⟩
    · obtain ⟨rfl, hx⟩ := hy
      obtain ⟨z, hz, rz⟩ := pd_get hp hx
      subst rz
      have hz' := ok.lt z (List.mem_of_getElem? hz)
      exact ⟨rfl, _, rfl, _, rfl, (n : Int), 1, rfl, rfl, (z : Int), 0, (n : Int) - 1, rfl, by omega, by omega, true, rfl, iteF (cn _ (Same.refl _))⟩
    · refine ⟨D, [], rfl, .inl (sl_of hl), 0, 0, rfl, rfl, _, rfl, iteN (by decide) ?_⟩
      have hT3 := (tk_of e).sq hT
      refine ⟨_, rfl, _, rfl, 1, rfl, a, us, rfl, hT3, rfl, rfl, fun p H2 e2 hp3 => ⟨a, p, us, us.drop 1, rfl, .inr ⟨(tk_of e2).sq hT3, hp3, fun D nD => ?_⟩⟩⟩
      refine lc_none (walk_zipT rfl) nD (fun H3 e3 => ⟨(tk_of e3).sq ((tk_of e2).sq hT3), (tk_of e3).sq hp3⟩) (fun i x H3 H4 Cy Cn hi e3 hy cn => ?_) ypair_same fun H3 e3 hl => ?_
      · obtain ⟨T, x, y, rfl, nT, rfl, hx, hy⟩ := hy
        have hy' : us[i + 1]? = some y := drop1 hy
        obtain ⟨z1, hz1, r1⟩ := pd_get hp hx
        obtain ⟨z2, hz2, r2⟩ := pd_get hp hy'
        subst r1; subst r2
        have lt : z1 < z2 := asc_drop ok.asc hz1 (drop1' hz2)
        exact g_pair (st_of upd_same) ⟨rfl, _, rfl, _, rfl, z1, z2, rfl, rfl, _, rfl, iteN (by omega) (cn _ (Same.refl _))⟩
      · exact ⟨D, [], rfl, .inl (sl_of hl), rfl, q H3 ((e.trans e2).trans e3)⟩
def sp_check_sums (K : PySem.W.Frag) : Sp := fun vs H Q _ => ∃ v u sizes sums, vs = [v, u] ∧ rT K rN H v sizes ∧ rT K (rSm K) H u sums ∧ sums.length ≤ 40000 ∧ (∀ s, s ∈ sums → VSm sizes s) ∧ ∀ z H', Same H H' → Q z H'
theorem ok_check_sums {f : Addr} {fd : FuncData} (F : Fun K "check_sums" "check_sums" s_check_sums f fd) (B : BI mg) (C : Cs K mg) (D_is_sum : Dk P w K mg base 5 "is_sum" ["sizes", "value"] (sp_is_sum K)) : FnOk P w K mg base CX0 6 f fd ["sizes", "value"] (sp_check_sums K) := by
  obtain ⟨_, c_MOST_SUMS⟩ := C.ms
  refine F.ok sc_check_sums (fun vs H Q E h => ?_) (fun cdv A outer s H vs Q E hr h => ?_)
  · obtain ⟨v, u, sizes, sums, rfl, _⟩ := h
    rfl
  · obtain ⟨v, _, sizes, sums, rfl, hv, ⟨a, us, rfl, hT, hp⟩, few, ok, q⟩ := h
    have lu : us.length = sums.length := hp.length
    refine ⟨_, (pss_cons (ps_if (PW.pt (pw_or (pt_not (pt_val (pe_callB call_isi (by rfl) B.isinstance (by decide +kernel) (pa_cons (pv 1) (pa_cons (pe_bltn (v := .ty "tuple") (u := .type "tuple") (by rfl) B.tuple (by decide +kernel) rfl) pa_nil))))) (pw_or1 (pt_cmpR op_gt (pe_callB call_len_seq (by rfl) B.len (by decide +kernel) (pa_cons (pv 1) pa_nil)) (pe_glob (v := .int 40000) rfl c_MOST_SUMS ⟨_, rfl⟩) (nomark _))))) (pss_one ps_never) pss_nil)
      (pss_cons (ps_for PassesOwn.never rfl (piT K (pv 1)) (pg_name (i := 2) sc_check_sums.nd rfl (Or.inl rfl)) (pss_one (ps_if (pt_not (pt_val (pe_callD D_is_sum hr (pa_cons (pv 0) (pa_cons (pv 2) pa_nil))))) (pss_one ps_never) pss_nil)))
      (pss_one (ps_ret (pv 1))))), ?_⟩
    refine ⟨_, rfl, .ref a, .ty "tuple", _, _, true, rfl, .ty _, isT hT, kit_tt, true, rfl, iteF ⟨_, rfl, a, us, rfl, .inr hT, us.length, 40000, rfl, rfl, _, rfl, iteN (by omega) ?_⟩⟩
    refine ⟨_, rfl, a, rfl, ⟨us, hT⟩, for_tup (xs := us) (fun i σ H' => Same H H' ∧ ∃ y2, σ = [some v, some (.ref a), y2]) ⟨Same.refl H, none, rfl⟩ (fun i σ H' _ h => (tk_of h.1).sq hT) (fun i x σ H1 hx hP => ?_) fun σ H1 hP => ?_⟩
    · obtain ⟨e1, y2, rfl⟩ := hP
      obtain ⟨s, hs, rs⟩ := pd_get hp hx
      exact ⟨_, rfl, _, rfl, v, x, sizes, s, rfl, Up.up (tk_of e1) hv, Up.up (tk_of e1) rs, ok s (List.mem_of_getElem? hs), fun H2 e2 => ⟨true, rfl, iteF ⟨e1.trans e2, some x, rfl⟩⟩⟩
    · obtain ⟨e1, y2, rfl⟩ := hP
      exact ⟨_, rfl, q _ H1 e1⟩
def sp_is_pair (K : PySem.W.Frag) : Sp := fun vs H Q _ => ∃ v u sizes p, vs = [v, u] ∧ rT K rN H v sizes ∧ rFx K H u p ∧ p.1 < sizes.length ∧ VSet p.2 (sizes.getD p.1 0) ∧ ∀ H', Same H H' → Q (.bl true) H'
theorem ok_is_pair {f : Addr} {fd : FuncData} (F : Fun K "is_pair" "is_pair" s_is_pair f fd) (B : BI mg) (D_is_from : Dk P w K mg base 2 "is_from" ["value", "low", "high"] sp_is_from) (D_is_set : Dk P w K mg base 3 "is_set" ["value", "size"] (sp_is_set K)) : FnOk P w K mg base CX0 4 f fd ["sizes", "value"] (sp_is_pair K) := by
  refine F.ok sc_is_pair (fun vs H Q E h => ?_) (fun cdv A outer s H vs Q E hr h => ?_)
  · obtain ⟨v, u, sizes, p, rfl, _⟩ := h
    rfl
  · obtain ⟨_, _, sizes, p, rfl, ⟨a, us, rfl, hT, hp⟩, ⟨c, x1, x2, rfl, hc, hx1, hx2⟩, lt, ok, q⟩ := h
    have hx1 : x1 = .int (p.1 : Nat) := hx1
    subst hx1
    have lu : us.length = sizes.length := hp.length
    obtain ⟨z, hzs, rz⟩ := rT_at hp (List.getElem?_eq_getElem lt : sizes[p.1]? = some sizes[p.1])
    have rz : z = .int (sizes[p.1] : Nat) := rz
    subst rz
    have ez : sizes.getD p.1 0 = sizes[p.1] := by simp [List.getD_eq_getElem?_getD, lt]
    refine ⟨_, (pss_cons (ps_if (PW.pt (pw_or (pt_not (pt_val (pe_callB call_isi (by rfl) B.isinstance (by decide +kernel) (pa_cons (pv 1) (pa_cons (pe_bltn (v := .ty "tuple") (u := .type "tuple") (by rfl) B.tuple (by decide +kernel) rfl) pa_nil))))) (pw_or (pt_cmpR op_ne (pe_callB call_len_seq (by rfl) B.len (by decide +kernel) (pa_cons (pv 1) pa_nil)) pe_int (nomark _)) (pw_or1 (pt_not (pt_val (pe_callD D_is_from hr (pa_cons (pe_ix (ixT K) (pv 1) pe_int (fun _ _ => rfl)) (pa_cons pe_int (pa_cons (pe_op op_sub (pe_callB call_len_seq (by rfl) B.len (by decide +kernel) (pa_cons (pv 0) pa_nil)) pe_int) pa_nil)))))))))) (pss_one (ps_ret pe_bl)) pss_nil)
      (pss_one (ps_ret (pe_callD D_is_set hr (pa_cons (pe_ix (ixT K) (pv 1) pe_int (fun _ _ => rfl)) (pa_cons (pe_ix (ixT K) (pv 0) (pe_ix (ixT K) (pv 1) pe_int (fun _ _ => rfl)) (fun _ _ => rfl)) pa_nil)))))), ?_⟩
    refine ⟨_, rfl, .ref c, .ty "tuple", _, _, true, rfl, .ty _, isT hc, kit_tt, true, rfl, iteF ⟨_, rfl, c, _, rfl, .inr hc, rfl, _, rfl, iteF ?_⟩⟩
    refine ⟨_, rfl, c, _, 0, _, rfl, rfl, hc, atI_nat (j := 0) rfl, _, rfl, a, us, rfl, .inr hT, us.length, 1, rfl, rfl, p.1, 0, (us.length : Nat) - 1, rfl, by omega, by rw [lu]; omega, true, rfl, iteF ?_⟩
    refine ⟨_, rfl, c, _, 1, _, rfl, rfl, hc, atI_nat (j := 1) rfl, _, rfl, _, rfl, c, _, 0, _, rfl, rfl, hc, atI_nat (j := 0) rfl, a, us, p.1, _, rfl, rfl, hT, hzs, x2, p.2, sizes[p.1], rfl, hx2, by rw [← ez]; exact ok, q⟩
def sp_check_fixed (K : PySem.W.Frag) : Sp := fun vs H Q _ => ∃ v u sizes fx, vs = [v, u] ∧ rT K rN H v sizes ∧ rT K (rFx K) H u fx ∧ VFx sizes fx ∧ ∀ z H', Same H H' → Q z H'
theorem ok_check_fixed {f : Addr} {fd : FuncData} (F : Fun K "check_fixed" "check_fixed" s_check_fixed f fd) (B : BI mg) (D_is_pair : Dk P w K mg base 4 "is_pair" ["sizes", "value"] (sp_is_pair K)) : FnOk P w K mg base CX0 5 f fd ["sizes", "value"] (sp_check_fixed K) := by
  refine F.ok sc_check_fixed (fun vs H Q E h => ?_) (fun cdv A outer s H vs Q E hr h => ?_)
  · obtain ⟨v, u, sizes, fx, rfl, _⟩ := h
    rfl
  · obtain ⟨v, _, sizes, fx, rfl, hv, ⟨a, us, rfl, hT, hp⟩, ok, q⟩ := h
    refine ⟨_, (pss_cons (ps_if (PW.pt (pw_or (pt_not (pt_val (pe_callB call_isi (by rfl) B.isinstance (by decide +kernel) (pa_cons (pv 1) (pa_cons (pe_bltn (v := .ty "tuple") (u := .type "tuple") (by rfl) B.tuple (by decide +kernel) rfl) pa_nil))))) (pw_or1 (pt_cmpR op_gt (pe_callB call_len_seq (by rfl) B.len (by decide +kernel) (pa_cons (pe_lc (own := [("pair", 4)]) (g := gName 4) rfl sc_check_fixed.nd (piT K (pv 1)) (blkOk_by (own := [("pair", 4)]) (N := N_check_fixed) (sc := (defScope s_check_fixed)) (by decide +kernel)) (fun _ _ _ _ _ => (pg_name (i := 4) sc_check_fixed.nd rfl (Or.inl rfl))) (fun _ _ _ _ _ => pts_one (pt_not (pt_val (pe_callD D_is_pair hr (pa_cons (pv 0) (pa_cons (pv 4) pa_nil)))))) (fun _ _ _ _ _ => pe_int)) pa_nil)) pe_int (nomark _))))) (pss_one ps_never) pss_nil)
      (pss_cons (ps_if (pt_cmpR op_gt (pe_callB call_len_seq (by rfl) B.len (by decide +kernel) (pa_cons (pe_lc (own := [("near", 2), ("far", 3)]) (g := gTup K 2 (gCons (gName 2) (gCons (gName 3) gNil))) rfl sc_check_fixed.nd (RZ.pi_zipA (by rfl) B.zip (pa_cons (pv 1) (pa_cons (pe_slice (sl_one K) (pv 1) (po_some pe_int) po_none) pa_nil))) (blkOk_by (own := [("near", 2), ("far", 3)]) (N := N_check_fixed) (sc := (defScope s_check_fixed)) (by decide +kernel)) (fun _ _ _ _ _ => (pgT K rfl (pgs_cons (pg_name (i := 2) sc_check_fixed.nd rfl (Or.inl rfl)) (pgs_cons (pg_name (i := 3) sc_check_fixed.nd rfl (Or.inl rfl)) pgs_nil)))) (fun _ _ _ _ _ => pts_one (pt_cmpR op_ge (pe_ix (ixT K) (pv 2) pe_int (fun _ _ => rfl)) (pe_ix (ixT K) (pv 3) pe_int (fun _ _ => rfl)) (nomark _))) (fun _ _ _ _ _ => pe_int)) pa_nil)) pe_int (nomark _)) (pss_one ps_never) pss_nil)
      (pss_one (ps_ret (pv 1))))), ?_⟩
    refine ⟨_, rfl, .ref a, .ty "tuple", _, _, true, rfl, .ty _, isT hT, kit_tt, true, rfl, iteF ?_⟩
    refine ⟨.ref a, rfl, a, rfl, ⟨us, hT⟩, fun D nD => lc_none walk_tup nD (fun H1 e => (tk_of e).sq hT) (fun i x H1 H2 Cy Cn hi e hy cn => ?_) yat_same fun H1 e hl => ?_⟩
    · obtain ⟨rfl, hx⟩ := hy
      obtain ⟨p, hpi, rp⟩ := pd_get hp hx
      obtain ⟨lt, vs⟩ := ok.at1 p (List.mem_of_getElem? hpi)
      exact ⟨rfl, _, rfl, _, rfl, v, x, sizes, p, rfl, Up.up (tk_of e) hv, Up.up (tk_of e) rp, lt, vs, fun H3 e3 => ⟨true, rfl, iteF (cn _ e3)⟩⟩
    · refine ⟨D, [], rfl, .inl (sl_of hl), 0, 0, rfl, rfl, _, rfl, iteN (by decide) ?_⟩
      have hT3 := (tk_of e).sq hT
      refine ⟨_, rfl, _, rfl, 1, rfl, a, us, rfl, hT3, rfl, rfl, fun p H2 e2 hp3 => ⟨a, p, us, us.drop 1, rfl, .inr ⟨(tk_of e2).sq hT3, hp3, fun D nD => ?_⟩⟩⟩
      have e12 := e.trans e2
      refine lc_none (walk_zipT rfl) nD (fun H3 e3 => ⟨(tk_of e3).sq ((tk_of e2).sq hT3), (tk_of e3).sq hp3⟩) (fun i x H3 H4 Cy Cn hi e3 hy cn => ?_) ypair_same fun H3 e3 hl => ?_
      · obtain ⟨T, x, y, rfl, nT, rfl, hx, hy⟩ := hy
        have hy' : us[i + 1]? = some y := drop1 hy
        obtain ⟨p1, hp1, c1, u1, u2, rfl, hc1, r1, _⟩ := pd_get hp hx
        obtain ⟨p2, hp2', c2, v1, v2, rfl, hc2, r2, _⟩ := pd_get hp hy'
        have r1 : u1 = .int (p1.1 : Nat) := r1
        have r2 : v1 = .int (p2.1 : Nat) := r2
        subst r1; subst r2
        have lt : p1.1 < p2.1 := asc_drop ok.asc hp1 (drop1' hp2')
        have k4 : Tk H (upd H3 T (.tup [.ref c1, .ref c2])) := (tk_of (e12.trans e3)).trans (tk_new nT)
        refine g_pair (st_of upd_same) ⟨rfl, _, rfl, c1, _, 0, _, rfl, rfl, k4.sq hc1, atI_nat (j := 0) rfl, _, rfl, c2, _, 0, _, rfl, rfl, k4.sq hc2, atI_nat (j := 0) rfl, p1.1, p2.1, rfl, rfl, _, rfl, iteN (by omega) (cn _ (Same.refl _))⟩
      · exact ⟨D, [], rfl, .inl (sl_of hl), 0, 0, rfl, rfl, _, rfl, iteN (by decide) ⟨_, rfl, q _ H3 (e12.trans e3)⟩⟩
structure VProb (sizes : List Nat) (sums : List Sm) (fx : List (Nat × List Nat)) : Prop where
  vz : VSizes sizes
  few : sums.length ≤ 40000
  vs : ∀ s, s ∈ sums → VSm sizes s
  vf : VFx sizes fx
def sp_check_problem (K : PySem.W.Frag) : Sp := fun vs H Q _ => ∃ v u z sizes sums fx, vs = [v, u, z] ∧ rT K rN H v sizes ∧ rT K (rSm K) H u sums ∧ rT K (rFx K) H z fx ∧ VProb sizes sums fx ∧ ∀ z H', Same H H' → Q z H'
theorem ok_check_problem {f : Addr} {fd : FuncData} (F : Fun K "check_problem" "check_problem" s_check_problem f fd) (D_check_sizes : Dk P w K mg base 3 "check_sizes" ["value"] (sp_check_sizes K)) (D_check_sums : Dk P w K mg base 6 "check_sums" ["sizes", "value"] (sp_check_sums K)) (D_check_fixed : Dk P w K mg base 5 "check_fixed" ["sizes", "value"] (sp_check_fixed K)) : FnOk P w K mg base CX0 7 f fd ["sizes", "sums", "fixed"] (sp_check_problem K) := by
  refine F.ok sc_check_problem (fun vs H Q E h => ?_) (fun cdv A outer s H vs Q E hr h => ?_)
  · obtain ⟨v, u, z, sizes, sums, fx, rfl, _⟩ := h
    rfl
  · obtain ⟨v, u, z, sizes, sums, fx, rfl, hv, hu, hz, ok, q⟩ := h
    refine ⟨_, (pss_cons (ps_expr (pe_callD D_check_sizes hr (pa_cons (pv 0) pa_nil)))
      (pss_cons (ps_expr (pe_callD D_check_sums hr (pa_cons (pv 0) (pa_cons (pv 1) pa_nil))))
      (pss_one (ps_expr (pe_callD D_check_fixed hr (pa_cons (pv 0) (pa_cons (pv 2) pa_nil))))))), ?_⟩
    refine ⟨_, rfl, v, sizes, rfl, hv, ok.vz, fun H1 e1 => ⟨_, rfl, _, rfl, v, u, sizes, sums, rfl, Up.up (tk_of e1) hv, Up.up (tk_of e1) hu, ok.few, ok.vs, fun _ H2 e2 => ?_⟩⟩
    have k := tk_of (e1.trans e2)
    exact ⟨_, rfl, _, rfl, v, z, sizes, fx, rfl, Up.up k hv, Up.up k hz, ok.vf, fun _ H3 e3 => q _ H3 ((e1.trans e2).trans e3)⟩
end
end K36
end
section

set_option Elab.async false
set_option linter.all false
set_option maxRecDepth 100000
set_option maxHeartbeats 4000000
/-! Masks: values_of, bits_of, bits_above, top_of, first_sets, told_sets. -/
namespace K36
open PySem PySem.Spec PyProof.Rows L2
abbrev s_values_of : Stmt := topS 21
abbrev N_values_of : List Str := ["bits", "found", "value"]
theorem sc_values_of : FnScope N_values_of ["bits"] (defScope s_values_of) := ⟨rfl, rfl, rfl, by decide +kernel, rfl, by decide +kernel, by decide +kernel⟩
abbrev s_bits_of : Stmt := topS 22
abbrev N_bits_of : List Str := ["values", "found", "value"]
theorem sc_bits_of : FnScope N_bits_of ["values"] (defScope s_bits_of) := ⟨rfl, rfl, rfl, by decide +kernel, rfl, by decide +kernel, by decide +kernel⟩
abbrev s_bits_above : Stmt := topS 23
abbrev N_bits_above : List Str := ["weights", "low", "value", "weight"]
theorem sc_bits_above : FnScope N_bits_above ["weights", "low"] (defScope s_bits_above) := ⟨rfl, rfl, rfl, by decide +kernel, rfl, by decide +kernel, by decide +kernel⟩
abbrev s_top_of : Stmt := topS 24
abbrev N_top_of : List Str := ["weights", "bits", "value"]
theorem sc_top_of : FnScope N_top_of ["weights", "bits"] (defScope s_top_of) := ⟨rfl, rfl, rfl, by decide +kernel, rfl, by decide +kernel, by decide +kernel⟩
abbrev s_first_sets : Stmt := topS 25
abbrev N_first_sets : List Str := ["sizes", "fixed", "found", "choice", "values", "size"]
theorem sc_first_sets : FnScope N_first_sets ["sizes", "fixed"] (defScope s_first_sets) := ⟨rfl, rfl, rfl, by decide +kernel, rfl, by decide +kernel, by decide +kernel⟩
abbrev s_told_sets : Stmt := topS 30
abbrev N_told_sets : List Str := ["sets", "bits"]
theorem sc_told_sets : FnScope N_told_sets ["sets"] (defScope s_told_sets) := ⟨rfl, rfl, rfl, by decide +kernel, rfl, by decide +kernel, by decide +kernel⟩
abbrev nV (ns : List Nat) : List V := (ns.map Int.ofNat).map V.int
theorem nV_at {ns : List Nat} {i : Nat} {x : V} (h : (nV ns)[i]? = some x) : ∃ n, ns[i]? = some n ∧ x = .int (n : Int) := by
  rw [List.getElem?_map, List.getElem?_map] at h
  cases e : ns[i]? with
  | none => rw [e] at h; simp at h
  | some n => rw [e] at h; exact ⟨n, rfl, (Option.some.inj h).symm⟩
theorem at_nV {ns : List Nat} {i n : Nat} (h : ns[i]? = some n) : (nV ns)[i]? = some (.int (n : Int)) := by
  rw [List.getElem?_map, List.getElem?_map, h]
  rfl
theorem nV_len (ns : List Nat) : (nV ns).length = ns.length := by rw [List.length_map, List.length_map]
theorem nV_snoc (ns : List Nat) (n : Nat) : nV ns ++ [.int (n : Int)] = nV (ns ++ [n]) := by
  unfold nV
  rw [List.map_append, List.map_append]
  rfl
theorem nV_set (ns : List Nat) (i n : Nat) : (nV ns).set i (.int (n : Int)) = nV (ns.set i n) := by
  unfold nV
  rw [List.map_set, List.map_set]
  rfl
theorem ixN_nat {n i : Nat} (h : i < n) : ixN n (i : Int) = some i := by
  unfold ixN
  rw [if_pos (by omega), if_pos (by omega)]
  rfl
section
variable {P : Program} {w : World} {K : PySem.W.Frag} {mg : Str → Option Value} {base : Heap}
def sp_values_of (K : PySem.W.Frag) : Sp := fun vs H Q _ => ∃ m : Nat, vs = [.int (m : Int)] ∧ m < 2 ^ 300 ∧ ∀ v H', Same H H' → rT K rN H' v (vl m) → Q v H'
theorem ok_values_of {f : Addr} {fd : FuncData} (F : Fun K "values_of" "values_of" s_values_of f fd) (B : BI mg) : FnOk P w K mg base CX0 1 f fd ["bits"] (sp_values_of K) := by
  refine F.ok sc_values_of (fun vs H Q E h => ?_) (fun cdv A outer s H vs Q E hr h => ?_)
  · obtain ⟨m, rfl, _⟩ := h
    rfl
  · obtain ⟨m, rfl, hm, q⟩ := h
    refine ⟨_, (pss_cons (ps_par (i := 1) (j := 2) (by rfl) sc_values_of.nd rfl rfl (by decide) rfl rfl (pa_cons (pe_lst pa_nil) (pa_cons pe_int pa_nil)) (by rfl))
      (pss_cons (ps_while PassesOwn.never (pt_cmpR op_gt (pv 0) pe_int (nomark _)) (pss_cons (ps_if (pt_cmpR op_eq (pe_op op_mod (pv 0) pe_int) pe_int (nomark _)) (pss_one (ps_expr (pe_bm PySem.F.plainAttrs_list PySem.F.slot_list_append PySem.F.type_list_append mt_append (pv 1) (pa_cons (pv 2) pa_nil)))) pss_nil)
      (pss_one (ps_par (i := 0) (j := 2) (by rfl) sc_values_of.nd rfl rfl (by decide) rfl rfl (pa_cons (pe_op op_fdiv (pv 0) pe_int) (pa_cons (pe_op op_add (pv 2) pe_int) pa_nil)) (by rfl)))))
      (pss_one (ps_ret (pe_callTy call_tuple_of (by rfl) B.tuple (by decide +kernel) (pa_cons (pv 1) pa_nil)))))), ?_⟩
    refine ⟨Nat.zero_le _, fun l nl => ⟨_, _, rfl, ?_⟩⟩
    refine ⟨fun k σ H' => ∃ i : Nat, k = m / 2 ^ i ∧ i ≤ 300 ∧ σ = [some (.int ((m / 2 ^ i : Nat) : Int)), some (.ref l), some (.int (i : Int))] ∧ Same H H' ∧ H' l = some (.lst (nV ((List.range i).filter fun v => m.testBit v))),
      ⟨m, 0, by simp, Nat.zero_le _, by rw [Nat.pow_zero, Nat.div_one] <;> rfl, sm_new nl, upd_same⟩, fun k σ H1 hW => ?_⟩
    obtain ⟨i, rfl, hi, rfl, e1, hl⟩ := hW
    refine ⟨_, rfl, ((m / 2 ^ i : Nat) : Int), 0, rfl, rfl, _, rfl, iteB (fun hb => ?_) fun hb => ?_⟩
    · have hpos : 0 < m / 2 ^ i := by have := of_decide_eq_true hb; omega
      have hi3 : i < 300 := by
        have h1 : 2 ^ i ≤ m := by
          rcases Nat.lt_or_ge m (2 ^ i) with z | z
          · rw [Nat.div_eq_of_lt z] at hpos; omega
          · exact z
        exact (Nat.pow_lt_pow_iff_right (by omega)).mp (Nat.lt_of_le_of_lt h1 hm)
      have half : m / 2 ^ i / 2 = m / 2 ^ (i + 1) := by rw [Nat.div_div_eq_div_mul, ← Nat.pow_succ]
      have tb : m.testBit i = decide (m / 2 ^ i % 2 = 1) := Nat.testBit_eq_decide_div_mod_eq
      refine ⟨fun σ H' => σ = [some (.int ((m / 2 ^ (i + 1) : Nat) : Int)), some (.ref l), some (.int ((i + 1 : Nat) : Int))] ∧ Same H H' ∧ H' l = some (.lst (nV ((List.range (i + 1)).filter fun v => m.testBit v))),
        fun σ' H' ⟨e2, e3, e4⟩ => ⟨m / 2 ^ (i + 1), by rw [← half]; omega, i + 1, rfl, hi3, e2, e3, e4⟩, ?_⟩
      refine ⟨_, rfl, ((m / 2 ^ i : Nat) : Int), 2, rfl, rfl, (by show (0 : Int) < 2; decide), rfl, _, rfl, iteB (fun hc => ?_) fun hc => ?_⟩
      · have hc1 : m.testBit i = true := by
          rw [tb, decide_eq_true_eq]
          have := V.int.inj (of_decide_eq_true hc)
          omega
        refine ⟨_, rfl, .inl ⟨rfl, _, sl_of hl⟩, _, rfl, l, _, _, rfl, rfl, hl, szl ?_, ?_⟩
        · rw [nV_len]
          have := List.length_filter_le (fun v => m.testBit v) (List.range i)
          rw [List.length_range] at this
          omega
        · refine ⟨_, rfl, ((m / 2 ^ i : Nat) : Int), 2, rfl, rfl, ⟨by decide, by decide⟩, _, rfl, (i : Int), 1, rfl, rfl, _, _, rfl, ?_, sm_mut e1 nl, ?_⟩
          · show [some (V.int (((m / 2 ^ i : Nat) : Int) / 2)), some (V.ref l), some (V.int ((i : Int) + 1))] = _
            rw [← half]
            rfl
          · rw [upd_same, nV_snoc, List.range_succ, List.filter_append, List.filter_cons, if_pos hc1]
            rfl
      · have hc1 : ¬ m.testBit i = true := by
          rw [tb, decide_eq_true_eq]
          intro z
          have := of_decide_eq_false hc
          exact this (congrArg V.int (by omega))
        refine ⟨_, rfl, ((m / 2 ^ i : Nat) : Int), 2, rfl, rfl, ⟨by decide, by decide⟩, _, rfl, (i : Int), 1, rfl, rfl, _, _, rfl, ?_, e1, ?_⟩
        · show [some (V.int (((m / 2 ^ i : Nat) : Int) / 2)), some (V.ref l), some (V.int ((i : Int) + 1))] = _
          rw [← half]
          rfl
        · rw [hl, List.range_succ, List.filter_append, List.filter_cons, if_neg hc1]
          simp
    · have h0 : m / 2 ^ i = 0 := by
        have h := of_decide_eq_false hb
        generalize m / 2 ^ i = z at h ⊢
        omega
      have hlt : m < 2 ^ i := by
        rcases Nat.lt_or_ge m (2 ^ i) with z | z
        · exact z
        · have := Nat.div_pos z (Nat.two_pow_pos i); omega
      rw [← vl_below hlt] at hl
      exact ⟨_, rfl, l, _, rfl, .inl ⟨sl_of hl, fun p np => q _ _ (e1.trans (sm_new np)) ⟨p, _, rfl, st_of upd_same, nats_pd _⟩⟩⟩
def sp_bits_of (K : PySem.W.Frag) : Sp := fun vs H Q _ => ∃ a ns, vs = [.ref a] ∧ (SqL K H a (nV ns) ∨ SqT K H a (nV ns)) ∧ (∀ n, n ∈ ns → n ≤ 1000) ∧ ∀ H', Same H H' → Q (.int (bitsOf ns : Nat)) H'
theorem shl_or (a v : Nat) : Builtin.bitOr (a : Int) (1 * 2 ^ (v : Int).toNat) = ((a ||| 2 ^ v : Nat) : Int) := by
  have e : (1 : Int) * 2 ^ (v : Int).toNat = ((2 ^ v : Nat) : Int) := by rw [Int.toNat_natCast, Int.one_mul]; exact (Int.natCast_pow 2 v).symm
  rw [e, Bits.bitOr_pp (Int.natCast_nonneg a) (Int.natCast_nonneg _), Int.toNat_natCast, Int.toNat_natCast]
theorem bitsOf_take {ns : List Nat} {i v : Nat} (h : ns[i]? = some v) : bitsOf (ns.take (i + 1)) = bitsOf (ns.take i) ||| 2 ^ v := by
  unfold bitsOf
  rw [List.take_add_one, h, List.foldl_append]
  rfl
theorem ok_bits_of {f : Addr} {fd : FuncData} (F : Fun K "bits_of" "bits_of" s_bits_of f fd) : FnOk P w K mg base CX0 1 f fd ["values"] (sp_bits_of K) := by
  refine F.ok sc_bits_of (fun vs H Q E h => ?_) (fun cdv A outer s H vs Q E hr h => ?_)
  · obtain ⟨a, ns, rfl, _⟩ := h
    rfl
  · obtain ⟨a, ns, rfl, hq | hq, hn, q⟩ := h
    · refine ⟨_, (pss_cons (ps_set (i := 1) sc_bits_of.nd rfl (Or.inl rfl) pe_int)
      (pss_cons (ps_for PassesOwn.never rfl (piL K (pv 0)) (pg_name (i := 2) sc_bits_of.nd rfl (Or.inl rfl)) (pss_one (ps_aug (i := 1) sc_bits_of.nd rfl (Or.inl rfl) (pe_op op_shl pe_int (pv 2)) ip_bor)))
      (pss_one (ps_ret (pv 1))))), ?_⟩
      refine ⟨_, rfl, a, rfl, ⟨_, hq⟩, for_list (xs := nV ns) (fun i σ H' => H' = H ∧ ∃ y, σ = [some (.ref a), some (.int (bitsOf (ns.take i) : Nat)), y]) ⟨rfl, none, rfl⟩ (fun i σ H' _ h => h.1 ▸ hq) (fun i x σ H1 hx hP => ?_) fun σ H1 hP => ?_⟩
      · obtain ⟨rfl, y, rfl⟩ := hP
        obtain ⟨v, hv, rfl⟩ := nV_at hx
        refine ⟨_, rfl, _, rfl, 1, (v : Int), rfl, rfl, ⟨by omega, by have := hn v (List.mem_of_getElem? hv); omega, by decide⟩, _, _, rfl, rfl, rfl, some (.int (v : Int)), ?_⟩
        rw [bitsOf_take hv]
        show [some (V.ref a), some (V.int (Builtin.bitOr _ _)), some (V.int (v : Int))] = _
        rw [shl_or]
      · obtain ⟨rfl, y, rfl⟩ := hP
        rw [nV_len, List.take_length]
        exact ⟨_, rfl, q _ (Same.refl _)⟩
    · refine ⟨_, (pss_cons (ps_set (i := 1) sc_bits_of.nd rfl (Or.inl rfl) pe_int)
      (pss_cons (ps_for PassesOwn.never rfl (piT K (pv 0)) (pg_name (i := 2) sc_bits_of.nd rfl (Or.inl rfl)) (pss_one (ps_aug (i := 1) sc_bits_of.nd rfl (Or.inl rfl) (pe_op op_shl pe_int (pv 2)) ip_bor)))
      (pss_one (ps_ret (pv 1))))), ?_⟩
      refine ⟨_, rfl, a, rfl, ⟨_, hq⟩, for_tup (xs := nV ns) (fun i σ H' => H' = H ∧ ∃ y, σ = [some (.ref a), some (.int (bitsOf (ns.take i) : Nat)), y]) ⟨rfl, none, rfl⟩ (fun i σ H' _ h => h.1 ▸ hq) (fun i x σ H1 hx hP => ?_) fun σ H1 hP => ?_⟩
      · obtain ⟨rfl, y, rfl⟩ := hP
        obtain ⟨v, hv, rfl⟩ := nV_at hx
        refine ⟨_, rfl, _, rfl, 1, (v : Int), rfl, rfl, ⟨by omega, by have := hn v (List.mem_of_getElem? hv); omega, by decide⟩, _, _, rfl, rfl, rfl, some (.int (v : Int)), ?_⟩
        rw [bitsOf_take hv]
        show [some (V.ref a), some (V.int (Builtin.bitOr _ _)), some (V.int (v : Int))] = _
        rw [shl_or]
      · obtain ⟨rfl, y, rfl⟩ := hP
        rw [nV_len, List.take_length]
        exact ⟨_, rfl, q _ (Same.refl _)⟩
def sp_bits_above (K : PySem.W.Frag) : Sp := fun vs H Q _ => ∃ v ws low, vs = [v, .int low] ∧ rT K rI H v ws ∧ ws.length ≤ 1000 ∧ ∀ H', Same H H' → Q (.int (bitsOf (above ws low) : Nat)) H'
theorem ok_bits_above {f : Addr} {fd : FuncData} (F : Fun K "bits_above" "bits_above" s_bits_above f fd) (B : BI mg) (D_bits_of : Dk P w K mg base 1 "bits_of" ["values"] (sp_bits_of K)) : FnOk P w K mg base CX0 2 f fd ["weights", "low"] (sp_bits_above K) := by
  refine F.ok sc_bits_above (fun vs H Q E h => ?_) (fun cdv A outer s H vs Q E hr h => ?_)
  · obtain ⟨v, ws, low, rfl, _⟩ := h
    rfl
  · obtain ⟨_, ws, low, rfl, ⟨a, us, rfl, hT, hp⟩, hz, q⟩ := h
    have lu : us.length = ws.length := hp.length
    refine ⟨_, (pss_one (ps_ret (pe_callD D_bits_of hr (pa_cons (pe_lc (own := [("value", 2), ("weight", 3)]) (g := gTup K 2 (gCons (gName 2) (gCons (gName 3) gNil))) rfl sc_bits_above.nd (pi_enumT (by rfl) B.enumerate (pa_cons (pv 0) pa_nil)) (blkOk_by (own := [("value", 2), ("weight", 3)]) (N := N_bits_above) (sc := (defScope s_bits_above)) (by decide +kernel)) (fun _ _ _ _ _ => (pgT K rfl (pgs_cons (pg_name (i := 2) sc_bits_above.nd rfl (Or.inl rfl)) (pgs_cons (pg_name (i := 3) sc_bits_above.nd rfl (Or.inl rfl)) pgs_nil)))) (fun _ _ _ _ _ => pts_one (pt_cmpR op_gt (pv 3) (pv 1) (nomark _))) (fun _ _ _ _ _ => (pv 2))) pa_nil)))), ?_⟩
    refine ⟨_, rfl, a, us, rfl, hT, fun D nD => lc_pure walk_enumT rN (List.range ws.length) (by rw [List.length_range, lu]) (fun v => decide (low < ws.getD v 0)) id nD (by omega) (fun H1 e => (tk_of e).sq hT) (fun i z x H1 H2 Cy Cn hz e hy cy cn => ?_) ypair_same fun H1 us' e hl hp' => ?_⟩
    · obtain ⟨T, y1, y2, rfl, nT, rfl, h1, h2⟩ := hy
      obtain ⟨wz, hw, rw'⟩ := pd_get hp h2
      have h1 : some (V.int (i : Int)) = some y1 := h1
      cases h1
      have rw' : y2 = .int wz := rw'
      subst rw'
      have ei : z = i := by
        rw [List.getElem?_range (by have := (List.getElem?_eq_some_iff.mp hw).1; exact this)] at hz
        exact (Option.some.inj hz).symm
      subst ei
      have ew : ws.getD z 0 = wz := by rw [List.getD_eq_getElem?_getD, hw]; rfl
      refine g_pair (st_of upd_same) ⟨rfl, _, rfl, _, rfl, wz, low, rfl, rfl, _, rfl, ?_⟩
      exact iteB (fun hb => ⟨_, rfl, cy _ _ (Same.refl _) rfl (by rw [ew]; exact hb)⟩) fun hb => cn _ (Same.refl _) (by rw [ew]; exact hb)
    · rw [List.map_id] at hp'
      have eu := pd_nats hp'
      subst eu
      refine ⟨D, above ws low, rfl, .inl (sl_of hl), fun n hn => ?_, fun H2 e2 => q H2 (e.trans e2)⟩
      have := (mem_above.mp hn).1
      omega
def sp_top_of (K : PySem.W.Frag) : Sp := fun vs H Q _ => ∃ v ws m, vs = [v, .int (m : Nat)] ∧ rT K rI H v ws ∧ m < 2 ^ 300 ∧ vl m ≠ [] ∧ (∀ v, v ∈ vl m → v < ws.length) ∧ ∀ H', Same H H' → Q (.int (tp ws (vl m))) H'
theorem vl_few {m : Nat} (h : m < 2 ^ 300) : (vl m).length ≤ 300 := by
  rw [vl_below h]
  have := List.length_filter_le (fun v => m.testBit v) (List.range 300)
  rw [List.length_range] at this
  exact this
theorem ok_top_of {f : Addr} {fd : FuncData} (F : Fun K "top_of" "top_of" s_top_of f fd) (B : BI mg) (D_values_of : Dk P w K mg base 1 "values_of" ["bits"] (sp_values_of K)) : FnOk P w K mg base CX0 2 f fd ["weights", "bits"] (sp_top_of K) := by
  refine F.ok sc_top_of (fun vs H Q E h => ?_) (fun cdv A outer s H vs Q E hr h => ?_)
  · obtain ⟨v, ws, m, rfl, _⟩ := h
    rfl
  · obtain ⟨_, ws, m, rfl, ⟨a, us, rfl, hT, hp⟩, hm, ne, hlt, q⟩ := h
    refine ⟨_, (pss_one (ps_ret (pe_callB (crMx K rfl hr.units) (by rfl) B.max (by decide +kernel) (pa_cons (pe_lc (own := [("value", 2)]) (g := gName 2) (tt := tYes) rfl sc_top_of.nd (piT K (pe_callD D_values_of hr (pa_cons (pv 1) pa_nil))) (blkOk_by (own := [("value", 2)]) (N := N_top_of) (sc := (defScope s_top_of)) (by decide +kernel)) (fun _ _ _ _ _ => (pg_name (i := 2) sc_top_of.nd rfl (Or.inl rfl))) (fun _ _ _ _ _ => pts_nil) (fun _ _ _ _ _ => (pe_ix (ixT K) (pv 0) (pv 2) (fun _ _ => rfl)))) pa_nil)))), ?_⟩
    refine ⟨_, rfl, m, rfl, hm, fun v H1 e1 ⟨b, ys, ev, hT2, hp2⟩ => ?_⟩
    subst ev
    refine ⟨b, rfl, ⟨ys, hT2⟩, fun D nD => lc_pure walk_tup rI (vl m) hp2.length.symm (fun _ => true) (fun v => ws.getD v 0) nD (by rw [hp2.length]; have := vl_few hm; omega) (fun H2 e => (tk_of e).sq hT2) (fun i z x H2 H3 Cy Cn hz e hy cy cn => ?_) yat_same fun H2 us' e hl hp' => ?_⟩
    · obtain ⟨rfl, hx⟩ := hy
      obtain ⟨z', hz', rz⟩ := pd_get hp2 hx
      rw [hz] at hz'
      cases hz'
      have rz : x = .int (z : Nat) := rz
      subst rz
      have zl := hlt z (List.mem_of_getElem? hz)
      obtain ⟨u, hu, ru⟩ := rT_at hp (List.getElem?_eq_getElem zl : ws[z]? = some ws[z])
      have ew : ws.getD z 0 = ws[z] := by simp [List.getD_eq_getElem?_getD, zl]
      exact ⟨rfl, _, rfl, _, rfl, a, us, z, u, rfl, rfl, (tk_of (e1.trans e)).sq hT, hu, cy _ _ (Same.refl _) (by rw [ew]; exact ru) rfl⟩
    · rw [List.filter_eq_self.mpr (fun _ _ => rfl)] at hp'
      have eu := pd_ints hp'
      subst eu
      refine ⟨D, (vl m).map fun v => ws.getD v 0, rfl, .inl (sl_of hl), fun z => ne (List.map_eq_nil_iff.mp z), q H2 (e1.trans e)⟩
def firstM (sizes : List Nat) (fx : List (Nat × List Nat)) : List Nat := fx.foldl (fun M p => M.set p.1 (bitsOf p.2)) (sizes.map fun z => 2 ^ z - 1)
theorem firstM_len (sizes : List Nat) (fx : List (Nat × List Nat)) : (firstM sizes fx).length = sizes.length := by
  have go : ∀ (fx : List (Nat × List Nat)) (M : List Nat), (fx.foldl (fun M p => M.set p.1 (bitsOf p.2)) M).length = M.length := by
    intro fx
    induction fx with
    | nil => intro M; rfl
    | cons p fx ih => intro M; rw [List.foldl_cons, ih, List.length_set]
  unfold firstM
  rw [go, List.length_map]
def sp_first_sets (K : PySem.W.Frag) : Sp := fun vs H Q _ => ∃ v u sizes fx, vs = [v, u] ∧ rT K rN H v sizes ∧ rT K (rFx K) H u fx ∧ VSizes sizes ∧ VFx sizes fx ∧ ∀ p H', Same H H' → H p = none → H' p = some (.lst (nV (firstM sizes fx))) → Q (.ref p) H'
theorem ok_first_sets {f : Addr} {fd : FuncData} (F : Fun K "first_sets" "first_sets" s_first_sets f fd) (B : BI mg) (D_bits_of : Dk P w K mg base 1 "bits_of" ["values"] (sp_bits_of K)) : FnOk P w K mg base CX0 2 f fd ["sizes", "fixed"] (sp_first_sets K) := by
  refine F.ok sc_first_sets (fun vs H Q E h => ?_) (fun cdv A outer s H vs Q E hr h => ?_)
  · obtain ⟨v, u, sizes, fx, rfl, _⟩ := h
    rfl
  · obtain ⟨_, _, sizes, fx, rfl, ⟨a, us, rfl, hT, hp⟩, ⟨b, ws, rfl, hT2, hp2⟩, vz, vf, q⟩ := h
    refine ⟨_, (pss_cons (ps_setLc (i := 2) (own := [("size", 5)]) (g := gName 5) (tt := tYes) rfl sc_first_sets.nd rfl rfl (sw_true rfl rfl rfl (by decide +kernel)) (piT K (pv 0)) (blkOk_by (own := [("size", 5)]) (N := N_first_sets) (sc := (defScope s_first_sets)) (by decide +kernel)) (fun _ _ _ _ _ => (pg_name (i := 5) sc_first_sets.nd rfl (Or.inl rfl))) (fun _ _ _ _ _ => pts_nil) (fun _ _ _ _ _ => (pe_op op_sub (pe_op op_shl pe_int (pv 5)) pe_int)))
      (pss_cons (ps_for PassesOwn.never rfl (piT K (pv 1)) (pgT K rfl (pgs_cons (pg_name (i := 3) sc_first_sets.nd rfl (Or.inl rfl)) (pgs_cons (pg_name (i := 4) sc_first_sets.nd rfl (Or.inl rfl)) pgs_nil))) (pss_one (ps_asg (pe_callD D_bits_of hr (pa_cons (pv 4) pa_nil)) (pg_sub (pv 2) (pv 3) set_list))))
      (pss_one (ps_ret (pv 2))))), ?_⟩
    refine ⟨_, rfl, a, rfl, ⟨us, hT⟩, fun D nD => lc_pure walk_tup rN sizes hp.length.symm (fun _ => true) (fun z => 2 ^ z - 1) nD (by rw [hp.length]; have := vz.few; omega) (fun H2 e => (tk_of e).sq hT) (fun i z x H2 H3 Cy Cn hz e hy cy cn => ?_) yat_same fun H2 us' e hl hp' => ?_⟩
    · obtain ⟨rfl, hx⟩ := hy
      obtain ⟨z', hz', rz⟩ := pd_get hp hx
      rw [hz] at hz'
      cases hz'
      have rz : x = .int (z : Nat) := rz
      subst rz
      have zl := (vz.all z (List.mem_of_getElem? hz)).2
      refine ⟨rfl, _, rfl, 1, (z : Int), rfl, rfl, ⟨by omega, by omega, by decide⟩, _, 1, rfl, rfl, cy _ _ (Same.refl _) ?_ rfl⟩
      have h1 : (1 : Int) * 2 ^ (z : Int).toNat = ((2 ^ z : Nat) : Int) := by rw [Int.toNat_natCast, Int.one_mul]; exact (Int.natCast_pow 2 z).symm
      have h2 := Nat.two_pow_pos z
      show V.int (1 * 2 ^ (z : Int).toNat - 1) = V.int ((2 ^ z - 1 : Nat) : Int)
      rw [h1]
      exact congrArg V.int (by omega)
    · rw [List.filter_eq_self.mpr (fun _ _ => rfl)] at hp'
      have eu := pd_nats hp'
      subst eu
      have nD' : H D = none := nD
      refine ⟨_, rfl, b, rfl, ⟨ws, (tk_of e).sq hT2⟩, for_tup (xs := ws) (fun i σ H' => Same H H' ∧ ∃ y3 y4 y5, σ = [some (.ref a), some (.ref b), some (.ref D), y3, y4, y5] ∧ H' D = some (.lst (nV (firstM sizes (fx.take i))))) ⟨e, none, none, none, rfl, hl⟩ (fun i σ H' _ h => (tk_of h.1).sq hT2) (fun i x σ H3 hx hP => ?_) fun σ H3 hP => ?_⟩
      · obtain ⟨e3, y3, y4, y5, rfl, hD3⟩ := hP
        obtain ⟨p, hpi, c, x1, x2, rfl, hc, hx1, hx2⟩ := pd_get hp2 hx
        have hx1 : x1 = .int (p.1 : Nat) := hx1
        subst hx1
        obtain ⟨lt, vs⟩ := vf.at1 p (List.mem_of_getElem? hpi)
        obtain ⟨d, rfl, hd⟩ := rT_nat (Up.up (tk_of e3) hx2)
        have sl : sizes.getD p.1 0 ≤ 200 := by
          have : sizes.getD p.1 0 = sizes[p.1] := by simp [List.getD_eq_getElem?_getD, lt]
          rw [this]
          exact (vz.all _ (List.getElem_mem lt)).2
        refine g_pair ((tk_of e3).sq hc) ⟨_, rfl, d, p.2, rfl, .inr hd, fun n hn => by have := vs.lt n hn; omega, fun H4 e4 => ?_⟩
        refine ⟨_, rfl, _, rfl, D, _, p.1, p.1, rfl, rfl, e4 _ _ hD3, ixN_nat (by rw [nV_len, firstM_len]; exact lt), sm_mut (e3.trans e4) nD', _, _, _, rfl, ?_⟩
        rw [upd_same, nV_set]
        unfold firstM
        rw [List.take_add_one, hpi, List.foldl_append]
        rfl
      · obtain ⟨e3, y3, y4, y5, rfl, hD3⟩ := hP
        rw [hp2.length, List.take_length] at hD3
        exact ⟨_, rfl, q D H3 e3 nD' hD3⟩
def sp_told_sets (K : PySem.W.Frag) : Sp := fun vs H Q _ => ∃ a Ms, vs = [.ref a] ∧ SqL K H a (nV Ms) ∧ Ms.length ≤ 1000 ∧ (∀ m, m ∈ Ms → m < 2 ^ 300) ∧ ∀ v H', Same H H' → rT K (rT K rN) H' v (Ms.map vl) → Q v H'
theorem ok_told_sets {f : Addr} {fd : FuncData} (F : Fun K "told_sets" "told_sets" s_told_sets f fd) (B : BI mg) (D_values_of : Dk P w K mg base 1 "values_of" ["bits"] (sp_values_of K)) : FnOk P w K mg base CX0 2 f fd ["sets"] (sp_told_sets K) := by
  refine F.ok sc_told_sets (fun vs H Q E h => ?_) (fun cdv A outer s H vs Q E hr h => ?_)
  · obtain ⟨a, Ms, rfl, _⟩ := h
    rfl
  · obtain ⟨a, Ms, rfl, hL, hz, hm, q⟩ := h
    refine ⟨_, (pss_one (ps_ret (pe_callTy call_tuple_of (by rfl) B.tuple (by decide +kernel) (pa_cons (pe_lc (own := [("bits", 1)]) (g := gName 1) (tt := tYes) rfl sc_told_sets.nd (piL K (pv 0)) (blkOk_by (own := [("bits", 1)]) (N := N_told_sets) (sc := (defScope s_told_sets)) (by decide +kernel)) (fun _ _ _ _ _ => (pg_name (i := 1) sc_told_sets.nd rfl (Or.inl rfl))) (fun _ _ _ _ _ => pts_nil) (fun _ _ _ _ _ => (pe_callD D_values_of hr (pa_cons (pv 1) pa_nil)))) pa_nil)))), ?_⟩
    refine ⟨_, rfl, a, rfl, ⟨_, hL⟩, fun D nD => lc_pure walk_list (rT K rN) Ms (nV_len Ms).symm (fun _ => true) vl nD (by rw [nV_len]; omega) (fun H2 e => e.seq hL) (fun i z x H2 H3 Cy Cn hz e hy cy cn => ?_) yat_same fun H2 us' e hl hp' => ?_⟩
    · obtain ⟨rfl, hx⟩ := hy
      obtain ⟨z', hz', rfl⟩ := nV_at hx
      rw [hz] at hz'
      cases hz'
      exact ⟨rfl, _, rfl, z, rfl, hm z (List.mem_of_getElem? hz), fun v H4 e4 r => cy v H4 e4 r rfl⟩
    · rw [List.filter_eq_self.mpr (fun _ _ => rfl)] at hp'
      exact ⟨D, us', rfl, .inl ⟨sl_of hl, fun p np => q _ _ (e.trans (sm_new np)) ⟨p, us', rfl, st_of upd_same, up_all (tk_new np) hp'⟩⟩⟩
end
end K36
end
section

set_option Elab.async false
set_option linter.all false
set_option maxRecDepth 100000
set_option maxHeartbeats 4000000
/-! A look at a sum: narrow, tops_of, look. -/
namespace K36
open PySem PySem.Spec PyProof.Rows L2
abbrev s_narrow : Stmt := topS 27
abbrev N_narrow : List Str := ["state", "choice", "bits", "reason"]
theorem sc_narrow : FnScope N_narrow ["state", "choice", "bits", "reason"] (defScope s_narrow) := ⟨rfl, rfl, rfl, by decide +kernel, rfl, by decide +kernel, by decide +kernel⟩
abbrev s_tops_of : Stmt := topS 28
abbrev N_tops_of : List Str := ["state", "number", "choice", "weights"]
theorem sc_tops_of : FnScope N_tops_of ["state", "number"] (defScope s_tops_of) := ⟨rfl, rfl, rfl, by decide +kernel, rfl, by decide +kernel, by decide +kernel⟩
abbrev s_look : Stmt := topS 29
abbrev N_look : List Str := ["state", "number", "terms", "bound", "tops", "spare", "choice", "weights", "top", "kept"]
theorem sc_look : FnScope N_look ["state", "number"] (defScope s_look) := ⟨rfl, rfl, rfl, by decide +kernel, rfl, by decide +kernel, by decide +kernel⟩
/-- an item of a dict by a written text -/
theorem dg {H : Hp} {s : Addr} {kvs : List (Key × V)} {x : Str} {v : V} (h : H s = some (.dK kvs)) (hv : valV kvs (.inr x) = some v) : DGet H s (.str x) (some v) := .inl ⟨kvs, .inr x, .inl h, rfl, hv.symm⟩
/-- what of a search's state does not change: its dict at s, the sums, the lists of the index; the sets, the trail and the queue stand at st, tr, qu, apart -/
structure PC (K : PySem.W.Frag) (Hb : Hp) (s st tr qu : Addr) (sums : List Sm) (idx : List (List Nat)) : Prop where
  d : ∃ kvs ls ix, Hb s = some (.dK kvs) ∧ valV kvs (.inr "sums") = some (.ref ls) ∧ valV kvs (.inr "index") = some (.ref ix) ∧ valV kvs (.inr "sets") = some (.ref st) ∧ valV kvs (.inr "trail") = some (.ref tr) ∧ valV kvs (.inr "queue") = some (.ref qu) ∧
    (∃ us, Hb ls = some (.lst us) ∧ Paired (rSm K Hb) us sums) ∧ ∃ is : List Addr, Hb ix = some (.lst (is.map V.ref)) ∧ is.length = idx.length ∧ ∀ c a, is[c]? = some a → Hb a = some (.lst (nV (idx.getD c [])))
  n1 : Hb st = none
  n2 : Hb tr = none
  n3 : Hb qu = none
  d12 : st ≠ tr
  d13 : st ≠ qu
  d23 : tr ≠ qu
structure PM (H : Hp) (st tr qu : Addr) (Ms q : List Nat) (n : Nat) : Prop where
  s : H st = some (.lst (nV Ms))
  t : ∃ ts, H tr = some (.lst ts) ∧ ts.length = n
  q : H qu = some (.lst (nV q))
theorem PC.mono {K : PySem.W.Frag} {Hb Hc : Hp} {s st tr qu : Addr} {sums : List Sm} {idx : List (List Nat)} (p : PC K Hb s st tr qu sums idx) (e : Same Hb Hc) (n1 : Hc st = none) (n2 : Hc tr = none) (n3 : Hc qu = none) : PC K Hc s st tr qu sums idx := by
  obtain ⟨⟨kvs, ls, ix, h1, h2, h3, h4, h5, h6, ⟨us, h7, h8⟩, is, h9, h10, h11⟩, _, _, _, d1, d2, d3⟩ := p
  exact ⟨⟨kvs, ls, ix, e _ _ h1, h2, h3, h4, h5, h6, ⟨us, e _ _ h7, up_all (tk_of e) h8⟩, is, e _ _ h9, h10, fun c a h => e _ _ (h11 c a h)⟩, n1, n2, n3, d1, d2, d3⟩
/-- the heap without the three -/
def cut3 (H : Hp) (a b c : Addr) : Hp := fun x => if x = a ∨ x = b ∨ x = c then none else H x
theorem cut3_same (H : Hp) (a b c : Addr) : Same (cut3 H a b c) H := fun x o h => by
  unfold cut3 at h
  split at h
  · cases h
  · exact h
theorem cut3_1 (H : Hp) (a b c : Addr) : cut3 H a b c a = none := if_pos (.inl rfl)
theorem cut3_2 (H : Hp) (a b c : Addr) : cut3 H a b c b = none := if_pos (.inr (.inl rfl))
theorem cut3_3 (H : Hp) (a b c : Addr) : cut3 H a b c c = none := if_pos (.inr (.inr rfl))
theorem cut3_at {H : Hp} {a b c x : Addr} (h1 : x ≠ a) (h2 : x ≠ b) (h3 : x ≠ c) : cut3 H a b c x = H x := if_neg fun z => z.elim h1 fun z => z.elim h2 h3
theorem cut3_of {Hb H : Hp} {a b c : Addr} (e : Same Hb H) (h1 : Hb a = none) (h2 : Hb b = none) (h3 : Hb c = none) : Same Hb (cut3 H a b c) := fun x o h => by
  rw [cut3_at (ne_of_none h h1) (ne_of_none h h2) (ne_of_none h h3)]
  exact e x o h
section
variable {P : Program} {w : World} {K : PySem.W.Frag} {mg : Str → Option Value} {base : Heap}
def sp_narrow (K : PySem.W.Frag) : Sp := fun vs H Q _ => ∃ (s : Addr) (c b : Nat) (r : V) (Hb : Hp) (st tr qu : Addr) (sums : List Sm) (idx : List (List Nat)) (Ms q : List Nat) (n : Nat), vs = [.ref s, .int (c : Int), .int (b : Int), r] ∧ Same Hb H ∧ PC K Hb s st tr qu sums idx ∧ PM H st tr qu Ms q n ∧
  c < Ms.length ∧ c < idx.length ∧ n < 500000 ∧ q.length + (idx.getD c []).length ≤ 500000 ∧ ∀ H', Same Hb H' → Tk H H' → PM H' st tr qu (Ms.set c b) (q ++ idx.getD c []) (n + 1) → Q .non H'
theorem ok_narrow {f : Addr} {fd : FuncData} (F : Fun K "narrow" "narrow" s_narrow f fd) : FnOk P w K mg base CX0 1 f fd ["state", "choice", "bits", "reason"] (sp_narrow K) := by
  refine F.ok sc_narrow (fun vs H Q E h => ?_) (fun cdv A outer s H vs Q E hr h => ?_)
  · obtain ⟨s, c, b, r, Hb, st, tr, qu, sums, idx, Ms, q, n, rfl, _⟩ := h
    rfl
  · obtain ⟨s, c, b, r, Hb, st, tr, qu, sums, idx, Ms, q, n, rfl, e, pc, pm, hc, hci, hn, hq, k⟩ := h
    obtain ⟨⟨kvs, ls, ix, h1, h2, h3, h4, h5, h6, _, is, h9, h10, h11⟩, n1, n2, n3, d1, d2, d3⟩ := pc
    obtain ⟨ts, ht, hl⟩ := pm.t
    obtain ⟨m, hm⟩ : ∃ m, Ms[c]? = some m := ⟨_, List.getElem?_eq_getElem hc⟩
    obtain ⟨a, ha⟩ : ∃ a, is[c]? = some a := ⟨_, List.getElem?_eq_getElem (by rw [h10]; exact hci)⟩
    have sx : ∀ {x o}, Hb x = some o → x ≠ st ∧ x ≠ tr ∧ x ≠ qu := fun h => ⟨ne_of_none h n1, ne_of_none h n2, ne_of_none h n3⟩
    refine ⟨_, (pss_cons (ps_expr (pe_bm PySem.F.plainAttrs_list PySem.F.slot_list_append PySem.F.type_list_append mt_append (pe_dget (hu_of hr) (pv 0) pe_str (fun _ _ => rfl)) (pa_cons (pe_tup (pa_cons (pv 1) (pa_cons (pe_ix (ixL K) (pe_dget (hu_of hr) (pv 0) pe_str (fun _ _ => rfl)) (pv 1) (fun _ _ => rfl)) (pa_cons (pv 3) pa_nil)))) pa_nil)))
      (pss_cons (ps_asg (pv 2) (pg_sub (pe_dget (hu_of hr) (pv 0) pe_str (fun _ _ => rfl)) (pv 1) set_list))
      (pss_one (ps_expr (pe_bm PySem.F.plainAttrs_list PySem.F.slot_list_extend PySem.F.type_list_extend mt_extend (pe_dget (hu_of hr) (pv 0) pe_str (fun _ _ => rfl)) (pa_cons (pe_ix (ixL K) (pe_dget (hu_of hr) (pv 0) pe_str (fun _ _ => rfl)) (pv 1) (fun _ _ => rfl)) pa_nil)))))), ?_⟩
    refine ⟨_, rfl, s, _, rfl, dg (e _ _ h1) h5, .inl ⟨rfl, _, sl_of ht⟩, _, rfl, _, rfl, s, _, rfl, dg (e _ _ h1) h4, _, rfl, st, _, (c : Int), _, rfl, rfl, sl_of pm.s, atI_nat (at_nV hm), _, rfl, sz (by show (3 : Nat) ≤ 1000000; decide), fun p np => ?_⟩
    -- the trail has the new item
    have pne : ∀ {x o}, H x = some o → x ≠ p := fun h => ne_of_none h np
    refine ⟨tr, ts, _, rfl, rfl, by rw [upd_ne (pne ht)]; exact ht, szl (by omega), ?_⟩
    have kp1 : ∀ x o, Hb x = some o → (upd (upd H p (.tup [.int (c : Int), .int (m : Int), r])) tr (.lst (ts ++ [.ref p]))) x = some o := fun x o h => by
      rw [upd_ne (sx h).2.1, upd_ne (pne (e _ _ h))]
      exact e _ _ h
    have s1 : (upd (upd H p (.tup [.int (c : Int), .int (m : Int), r])) tr (.lst (ts ++ [.ref p]))) st = some (.lst (nV Ms)) := by rw [upd_ne d1, upd_ne (pne pm.s)]; exact pm.s
    have q1 : (upd (upd H p (.tup [.int (c : Int), .int (m : Int), r])) tr (.lst (ts ++ [.ref p]))) qu = some (.lst (nV q)) := by rw [upd_ne d3.symm, upd_ne (pne pm.q)]; exact pm.q
    have t1 : (upd (upd H p (.tup [.int (c : Int), .int (m : Int), r])) tr (.lst (ts ++ [.ref p]))) tr = some (.lst (ts ++ [.ref p])) := upd_same
    have tk1 : Tk H (upd (upd H p (.tup [.int (c : Int), .int (m : Int), r])) tr (.lst (ts ++ [.ref p]))) := (tk_new np).trans (tk_lst (xs := ts) (by rw [upd_ne (pne ht)]; exact ht))
    generalize upd (upd H p (.tup [.int (c : Int), .int (m : Int), r])) tr (.lst (ts ++ [.ref p])) = H1 at kp1 s1 q1 t1 tk1
    refine ⟨_, rfl, _, rfl, s, _, rfl, dg (kp1 _ _ h1) h4, _, rfl, st, _, (c : Int), c, rfl, rfl, s1, ixN_nat (by rw [nV_len]; exact hc), ?_⟩
    rw [nV_set]
    have kp2 : ∀ x o, Hb x = some o → (upd H1 st (.lst (nV (Ms.set c b)))) x = some o := fun x o h => by rw [upd_ne (sx h).1]; exact kp1 _ _ h
    have q2 : (upd H1 st (.lst (nV (Ms.set c b)))) qu = some (.lst (nV q)) := by rw [upd_ne d2.symm]; exact q1
    refine ⟨_, rfl, s, _, rfl, dg (kp2 _ _ h1) h6, .inl ⟨rfl, _, sl_of q2⟩, _, rfl, s, _, rfl, dg (kp2 _ _ h1) h3, _, rfl, ix, _, (c : Int), .ref a, rfl, rfl, sl_of (kp2 _ _ h9), atI_nat (by rw [List.getElem?_map, ha]; rfl), qu, a, nV q, nV (idx.getD c []), rfl, rfl, q2, kp2 _ _ (h11 c a ha), ?_, ?_⟩
    · rw [nV_len, nV_len]; exact sz (by omega)
    · refine k _ (fun x o h => by rw [upd_ne (sx h).2.2]; exact kp2 x o h) ((tk1.trans (tk_lst s1)).trans (tk_lst q2)) ⟨by rw [upd_ne d2]; exact upd_same, ⟨ts ++ [.ref p], by rw [upd_ne d3, upd_ne d1.symm]; exact t1, by rw [List.length_append, hl]; rfl⟩, ?_⟩
      rw [upd_same]
      unfold nV
      rw [List.map_append, List.map_append]
/-- a sum can be looked at -/
structure LookOk (Ms : List Nat) (sm : Sm) : Prop where
  few : sm.1.length ≤ 100000
  at1 : ∀ p, p ∈ sm.1 → p.1 < Ms.length ∧ Ms.getD p.1 0 < 2 ^ 300 ∧ vl (Ms.getD p.1 0) ≠ [] ∧ (∀ v, v ∈ vl (Ms.getD p.1 0) → v < p.2.length) ∧ p.2.length ≤ 1000
def sp_tops_of (K : PySem.W.Frag) : Sp := fun vs H Q _ => ∃ (s : Addr) (j : Nat) (Hb : Hp) (st tr qu : Addr) (sums : List Sm) (idx : List (List Nat)) (Ms q : List Nat) (n : Nat) (sm : Sm), vs = [.ref s, .int (j : Int)] ∧ Same Hb H ∧ PC K Hb s st tr qu sums idx ∧ PM H st tr qu Ms q n ∧
  sums[j]? = some sm ∧ LookOk Ms sm ∧ ∀ p H', Same H H' → H p = none → H' p = some (.lst ((tops sm.1 (famM Ms)).map V.int)) → Q (.ref p) H'
theorem ok_tops_of {f : Addr} {fd : FuncData} (F : Fun K "tops_of" "tops_of" s_tops_of f fd) (D_top_of : Dk P w K mg base 2 "top_of" ["weights", "bits"] (sp_top_of K)) : FnOk P w K mg base CX0 3 f fd ["state", "number"] (sp_tops_of K) := by
  refine F.ok sc_tops_of (fun vs H Q E h => ?_) (fun cdv A outer s H vs Q E hr h => ?_)
  · obtain ⟨s, j, Hb, st, tr, qu, sums, idx, Ms, q, n, sm, rfl, _⟩ := h
    rfl
  · obtain ⟨s, j, Hb, st, tr, qu, sums, idx, Ms, q, n, sm, rfl, e, pc, pm, hj, lo, k⟩ := h
    obtain ⟨⟨kvs, ls, ix, h1, h2, h3, h4, h5, h6, ⟨us, h7, h8⟩, _⟩, n1, n2, n3, d1, d2, d3⟩ := pc
    obtain ⟨u, hu, ⟨a, x1, x2, rfl, hT, ⟨b, ws, rfl, hT2, hp2⟩, _⟩⟩ := pd_getr h8 hj
    refine ⟨_, (pss_one (ps_ret (pe_lc (own := [("choice", 2), ("weights", 3)]) (g := gTup K 2 (gCons (gName 2) (gCons (gName 3) gNil))) (tt := tYes) rfl sc_tops_of.nd (piT K (pe_ix (ixT K) (pe_ix (ixL K) (pe_dget (hu_of hr) (pv 0) pe_str (fun _ _ => rfl)) (pv 1) (fun _ _ => rfl)) pe_int (fun _ _ => rfl))) (blkOk_by (own := [("choice", 2), ("weights", 3)]) (N := N_tops_of) (sc := (defScope s_tops_of)) (by decide +kernel)) (fun _ _ _ _ _ => (pgT K rfl (pgs_cons (pg_name (i := 2) sc_tops_of.nd rfl (Or.inl rfl)) (pgs_cons (pg_name (i := 3) sc_tops_of.nd rfl (Or.inl rfl)) pgs_nil)))) (fun _ _ _ _ _ => pts_nil) (fun _ _ _ _ _ => (pe_callD D_top_of hr (pa_cons (pv 3) (pa_cons (pe_ix (ixL K) (pe_dget (hu_of hr) (pv 0) pe_str (fun _ _ => rfl)) (pv 2) (fun _ _ => rfl)) pa_nil))))))), ?_⟩
    refine ⟨_, rfl, s, _, rfl, dg (e _ _ h1) h2, _, rfl, ls, us, (j : Int), .ref a, rfl, rfl, sl_of (e _ _ h7), atI_nat hu, a, _, 0, _, rfl, rfl, (tk_of e).sq hT, atI_nat (j := 0) rfl, b, rfl, ⟨ws, (tk_of e).sq hT2⟩, fun D nD => ?_⟩
    refine lc_pure walk_tup rI sm.1 hp2.length.symm (fun _ => true) (fun p => tp p.2 (at' (famM Ms) p.1)) nD (by rw [hp2.length]; exact lo.few) (fun H2 e2 => (tk_of (e.trans e2)).sq hT2) (fun i z x H2 H3 Cy Cn hz e2 hy cy cn => ?_) yat_same fun H2 us' e2 hl hp' => ?_
    · obtain ⟨rfl, hx⟩ := hy
      obtain ⟨z', hz', c, y1, y2, rfl, hc, r1, r2⟩ := pd_get hp2 hx
      rw [hz] at hz'
      cases hz'
      have r1 : y1 = .int (z.1 : Nat) := r1
      subst r1
      have k2 := tk_of (e.trans e2)
      obtain ⟨lt, o1, o2, o3, _⟩ := lo.at1 z (List.mem_of_getElem? hz)
      have hm : Ms[z.1]? = some (Ms.getD z.1 0) := by simp [List.getD_eq_getElem?_getD, lt]
      refine g_pair (k2.sq hc) ⟨rfl, _, rfl, _, rfl, s, _, rfl, dg (e2 _ _ (e _ _ h1)) h4, _, rfl, st, _, (z.1 : Int), _, rfl, rfl, sl_of (e2 _ _ pm.s), atI_nat (at_nV hm), y2, z.2, Ms.getD z.1 0, rfl, Up.up k2 r2, o1, o2, o3, fun H4 e4 => ?_⟩
      rw [← at_famM]
      exact cy _ H4 e4 rfl rfl
    · rw [List.filter_eq_self.mpr (fun _ _ => rfl)] at hp'
      have eu := pd_ints hp'
      subst eu
      exact k D H2 e2 nD hl
theorem and_nn (a b : Nat) : Builtin.bitAnd (a : Int) (b : Int) = ((a &&& b : Nat) : Int) := by
  rw [PyProof.Rows.bitAnd_pp (Int.natCast_nonneg a) (Int.natCast_nonneg b), Int.toNat_natCast, Int.toNat_natCast]
/-- what a look may do: masks, queue and trail stay within these -/
def sp_look (K : PySem.W.Frag) : Sp := fun vs H Q _ => ∃ (s : Addr) (j : Nat) (Hb : Hp) (st tr qu : Addr) (sums : List Sm) (idx : List (List Nat)) (Ms q : List Nat) (n B : Nat) (sm : Sm), vs = [.ref s, .int (j : Int)] ∧ Same Hb H ∧ PC K Hb s st tr qu sums idx ∧ PM H st tr qu Ms q n ∧
  sums[j]? = some sm ∧ LookOk Ms sm ∧ idx.length = Ms.length ∧ (∀ c, (idx.getD c []).length ≤ B) ∧ n + Ms.sum ≤ 400000 ∧ q.length + Ms.sum * B ≤ 400000 ∧ B ≤ 90000 ∧
  (tsum sm.1 (famM Ms) < sm.2 → ∀ H', Same Hb H' → Q (.bl false) H') ∧ (sm.2 ≤ tsum sm.1 (famM Ms) → ∀ H', Same Hb H' → PM H' st tr qu (lookAll idx sm (Ms, q, n)).1 (lookAll idx sm (Ms, q, n)).2.1 (lookAll idx sm (Ms, q, n)).2.2 → Q (.bl true) H')

theorem look_part (idx : List (List Nat)) (B : Nat) (hB : ∀ c, (idx.getD c []).length ≤ B) (spare : Int) : ∀ (xs : List ((Nat × List Int) × Int)) (st : LS),
    (xs.foldl (lookStep idx spare) st).1.length = st.1.length ∧ (xs.foldl (lookStep idx spare) st).1.sum + (xs.foldl (lookStep idx spare) st).2.2 ≤ st.1.sum + st.2.2 ∧
      (xs.foldl (lookStep idx spare) st).1.sum * B + (xs.foldl (lookStep idx spare) st).2.1.length ≤ st.1.sum * B + st.2.1.length ∧ ∀ c, (xs.foldl (lookStep idx spare) st).1.getD c 0 ≤ st.1.getD c 0
  | [], st => ⟨rfl, Nat.le_refl _, Nat.le_refl _, fun _ => Nat.le_refl _⟩
  | x :: xs, st => by
    rw [List.foldl_cons]
    obtain ⟨h1, h2, h3, h4⟩ := look_part idx B hB spare xs (lookStep idx spare st x)
    have one : (lookStep idx spare st x).1.length = st.1.length ∧ (lookStep idx spare st x).1.sum + (lookStep idx spare st x).2.2 ≤ st.1.sum + st.2.2 ∧ (lookStep idx spare st x).1.sum * B + (lookStep idx spare st x).2.1.length ≤ st.1.sum * B + st.2.1.length ∧
        ∀ c, (lookStep idx spare st x).1.getD c 0 ≤ st.1.getD c 0 := by
      unfold lookStep
      split
      · exact ⟨rfl, Nat.le_refl _, Nat.le_refl _, fun _ => Nat.le_refl _⟩
      · rename_i hk
        generalize hkk : keepAt st.1 x.1 (x.2 - spare - 1) = kk at hk ⊢
        have le : kk ≤ st.1.getD x.1.1 0 := by rw [← hkk]; exact Nat.and_le_left
        have lt : kk < st.1.getD x.1.1 0 := by omega
        have hc : x.1.1 < st.1.length := by
          rcases Nat.lt_or_ge x.1.1 st.1.length with z | z
          · exact z
          · rw [List.getD_eq_getElem?_getD, List.getElem?_eq_none z] at lt
            simp at lt
        have a := sum_set_lt hc lt
        have b := hB x.1.1
        have d : ((st.1.set x.1.1 kk).sum + 1) * B ≤ st.1.sum * B := Nat.mul_le_mul_right B a
        rw [Nat.add_mul, Nat.one_mul] at d
        refine ⟨List.length_set, ?_, ?_, fun c => ?_⟩
        · show (st.1.set x.1.1 kk).sum + (st.2.2 + 1) ≤ _
          omega
        · show (st.1.set x.1.1 kk).sum * B + (st.2.1 ++ idx.getD x.1.1 []).length ≤ _
          rw [List.length_append]
          omega
        · show (st.1.set x.1.1 kk).getD c 0 ≤ _
          rw [getD_set]
          split
          · rename_i z
            rw [z.1]; exact le
          · exact Nat.le_refl _
    obtain ⟨g1, g2, g3, g4⟩ := one
    exact ⟨h1.trans g1, Nat.le_trans h2 g2, Nat.le_trans h3 g3, fun c => Nat.le_trans (h4 c) (g4 c)⟩
theorem g_nest {K : PySem.W.Frag} {H : Hp} {σ : L2.St} {k : L2.St → Hp → Prop} {x1 x2 y : V} {T c : Addr} {i j l : Nat} (h : SqT K H T [.ref c, y]) (hc : SqT K H c [x1, x2]) (hk : k (((σ.set i (some x1)).set j (some x2)).set l (some y)) H) :
    gTup K 2 (gCons (gTup K 2 (gCons (gName i) (gCons (gName j) gNil))) (gCons (gName l) gNil)) (.ref T) σ H k :=
  ⟨T, _, rfl, h, rfl, .ref c, [y], rfl, c, _, rfl, hc, rfl, x1, [x2], rfl, x2, [], rfl, rfl, y, [], rfl, rfl, hk⟩
theorem ok_look {f : Addr} {fd : FuncData} (F : Fun K "look" "look" s_look f fd) (B : BI mg) (D_tops_of : Dk P w K mg base 3 "tops_of" ["state", "number"] (sp_tops_of K)) (D_bits_above : Dk P w K mg base 2 "bits_above" ["weights", "low"] (sp_bits_above K))
    (D_narrow : Dk P w K mg base 1 "narrow" ["state", "choice", "bits", "reason"] (sp_narrow K)) : FnOk P w K mg base CX0 4 f fd ["state", "number"] (sp_look K) := by
  refine F.ok sc_look (fun vs H Q E h => ?_) (fun cdv A outer sh H vs Q E hr h => ?_)
  · obtain ⟨s, j, Hb, st, tr, qu, sums, idx, Ms, q, n, Bd, sm, rfl, _⟩ := h
    rfl
  · obtain ⟨s, j, Hb, st, tr, qu, sums, idx, Ms, q, n, Bd, sm, rfl, e, pc, pm, hj, lo, hil, hBd, bn, bq, bB, qF, qT⟩ := h
    have pc0 := pc
    obtain ⟨⟨kvs, ls, ix, h1, h2, h3, h4, h5, h6, ⟨us, h7, h8⟩, _⟩, n1, n2, n3, d1, d2, d3⟩ := pc
    obtain ⟨u, hu, ⟨a, x1, x2, rfl, hT, ⟨b, ws, rfl, hT2, hp2⟩, hx2⟩⟩ := pd_getr h8 hj
    have hx2 : x2 = .int sm.2 := hx2
    subst hx2
    refine ⟨_, (pss_cons (ps_asg (pe_ix (ixL K) (pe_dget (hu_of hr) (pv 0) pe_str (fun _ _ => rfl)) (pv 1) (fun _ _ => rfl)) (pgT K rfl (pgs_cons (pg_name (i := 2) sc_look.nd rfl (Or.inl rfl)) (pgs_cons (pg_name (i := 3) sc_look.nd rfl (Or.inl rfl)) pgs_nil))))
      (pss_cons (ps_set (i := 4) sc_look.nd rfl (Or.inl rfl) (pe_callD D_tops_of hr (pa_cons (pv 0) (pa_cons (pv 1) pa_nil))))
      (pss_cons (ps_set (i := 5) sc_look.nd rfl (Or.inl rfl) (pe_op op_sub (pe_callB (cr_sum rfl) (by rfl) B.sum (by decide +kernel) (pa_cons (pv 4) pa_nil)) (pv 3)))
      (pss_cons (ps_if (pt_cmpR op_lt (pv 5) pe_int (nomark _)) (pss_one (ps_ret pe_bl)) pss_nil)
      (pss_cons (ps_for PassesOwn.never rfl (pi_zipM (by rfl) B.zip (pa_cons (pv 2) (pa_cons (pv 4) pa_nil))) (pgT K rfl (pgs_cons (pgT K rfl (pgs_cons (pg_name (i := 6) sc_look.nd rfl (Or.inl rfl)) (pgs_cons (pg_name (i := 7) sc_look.nd rfl (Or.inl rfl)) pgs_nil))) (pgs_cons (pg_name (i := 8) sc_look.nd rfl (Or.inl rfl)) pgs_nil))) (pss_cons (ps_set (i := 9) sc_look.nd rfl (Or.inl rfl) (pe_op op_and (pe_ix (ixL K) (pe_dget (hu_of hr) (pv 0) pe_str (fun _ _ => rfl)) (pv 6) (fun _ _ => rfl)) (pe_callD D_bits_above hr (pa_cons (pv 7) (pa_cons (pe_op op_sub (pe_op op_sub (pv 8) (pv 5)) pe_int) pa_nil)))))
      (pss_one (ps_if (pt_cmpR op_ne (pv 9) (pe_ix (ixL K) (pe_dget (hu_of hr) (pv 0) pe_str (fun _ _ => rfl)) (pv 6) (fun _ _ => rfl)) (nomark _)) (pss_one (ps_expr (pe_callD D_narrow hr (pa_cons (pv 0) (pa_cons (pv 6) (pa_cons (pv 9) (pa_cons (pv 1) pa_nil))))))) pss_nil))))
      (pss_one (ps_ret pe_bl))))))), ?_⟩
    refine ⟨_, rfl, s, _, rfl, dg (e _ _ h1) h2, _, rfl, ls, us, (j : Int), .ref a, rfl, rfl, sl_of (e _ _ h7), atI_nat hu, g_pair ((tk_of e).sq hT) ?_⟩
    refine ⟨_, rfl, _, rfl, s, j, Hb, st, tr, qu, sums, idx, Ms, q, n, sm, rfl, e, pc0, pm, hj, lo, fun tl H1 e1 ntl htl => ?_⟩
    refine ⟨_, rfl, tl, _, rfl, sl_of htl, _, rfl, (tops sm.1 (famM Ms)).sum, sm.2, rfl, rfl, ?_⟩
    have spare : (tops sm.1 (famM Ms)).sum = tsum sm.1 (famM Ms) := rfl
    dsimp only
    rw [spare]
    generalize hsp : tsum sm.1 (famM Ms) - sm.2 = spr
    refine ⟨_, rfl, spr, 0, rfl, rfl, _, rfl, iteB (fun hb => ?_) fun hb => ?_⟩
    · have := of_decide_eq_true hb
      exact qF (by omega) H1 (e.trans e1)
    · have hb1 : sm.2 ≤ tsum sm.1 (famM Ms) := by have := of_decide_eq_false hb; omega
      have pm1 : PM H1 st tr qu Ms q n := ⟨e1 _ _ pm.s, by obtain ⟨ts, z1, z2⟩ := pm.t; exact ⟨ts, e1 _ _ z1, z2⟩, e1 _ _ pm.q⟩
      have kb : Same Hb H1 := e.trans e1
      have eb : Same Hb (cut3 H1 st tr qu) := cut3_of kb n1 n2 n3
      have tne : ∀ {x o}, H x = some o → tl ≠ x := fun h z => by rw [z, h] at ntl; cases ntl
      have htl' : (cut3 H1 st tr qu) tl = some (.lst ((tops sm.1 (famM Ms)).map V.int)) := by
        obtain ⟨ts, z1, _⟩ := pm.t
        rw [cut3_at (tne pm.s) (tne z1) (tne pm.q)]
        exact htl
      have pcc := pc0.mono eb (cut3_1 H1 st tr qu) (cut3_2 H1 st tr qu) (cut3_3 H1 st tr qu)
      have hTc : SqT K (cut3 H1 st tr qu) b ws := (tk_of eb).sq hT2
      have hpc : Paired (rP K rN (rT K rI) (cut3 H1 st tr qu)) ws sm.1 := up_all (tk_of eb) hp2
      have eH : Same (cut3 H1 st tr qu) H1 := cut3_same H1 st tr qu
      generalize cut3 H1 st tr qu = Hc at eb htl' pcc hTc hpc eH
      have lw : ws.length = sm.1.length := hp2.length
      have ltop : ws.length = ((tops sm.1 (famM Ms)).map V.int).length := by
        unfold tops
        rw [List.length_map, List.length_map, lw]
      refine ⟨_, rfl, _, rfl, b, tl, ws, _, rfl, (tk_of (eb.trans eH)).sq hT2, sl_of htl, ?_⟩
      refine for_it (walk_zipM ltop) (fun i σ H' => Same Hc H' ∧ (∃ y6 y7 y8 y9, σ = [some (.ref s), some (.int (j : Int)), some (.ref b), some (.int sm.2), some (.ref tl), some (.int spr), y6, y7, y8, y9]) ∧
          PM H' st tr qu (((sm.1.map fun p => (p, tp p.2 (at' (famM Ms) p.1))).take i).foldl (lookStep idx spr) (Ms, q, n)).1 (((sm.1.map fun p => (p, tp p.2 (at' (famM Ms) p.1))).take i).foldl (lookStep idx spr) (Ms, q, n)).2.1 (((sm.1.map fun p => (p, tp p.2 (at' (famM Ms) p.1))).take i).foldl (lookStep idx spr) (Ms, q, n)).2.2)
        ⟨eH, ⟨none, none, none, none, rfl⟩, pm1⟩ (fun i σ H' _ h => ⟨(tk_of h.1).sq hTc, sl_of (h.1 _ _ htl')⟩) (fun i x σ H2 H3 hi hP hy => ?_) fun σ H2 hP => ?_
      · obtain ⟨e2, ⟨y6, y7, y8, y9, rfl⟩, pm2⟩ := hP
        obtain ⟨T, z1, z2, rfl, nT, rfl, hz1, hz2⟩ := hy
        obtain ⟨p, hpi, c, w1, w2, rfl, hc, rw1, rw2⟩ := pd_get hpc hz1
        have rw1 : w1 = .int (p.1 : Nat) := rw1
        subst rw1
        have htop : z2 = .int (tp p.2 (at' (famM Ms) p.1)) := by
          have hz2 : ((tops sm.1 (famM Ms)).map V.int)[i]? = some z2 := hz2
          unfold tops at hz2
          rw [List.getElem?_map, List.getElem?_map, hpi] at hz2
          exact (Option.some.inj hz2).symm
        subst htop
        have step : ((sm.1.map fun p => (p, tp p.2 (at' (famM Ms) p.1))).take (i + 1)).foldl (lookStep idx spr) (Ms, q, n) = lookStep idx spr (((sm.1.map fun p => (p, tp p.2 (at' (famM Ms) p.1))).take i).foldl (lookStep idx spr) (Ms, q, n)) (p, tp p.2 (at' (famM Ms) p.1)) := by
          rw [List.take_add_one, List.getElem?_map, hpi, List.foldl_append]
          rfl
        obtain ⟨l1, l2, l3, l4⟩ := look_part idx Bd hBd spr ((sm.1.map fun p => (p, tp p.2 (at' (famM Ms) p.1))).take i) (Ms, q, n)
        rw [step]
        generalize ((sm.1.map fun p => (p, tp p.2 (at' (famM Ms) p.1))).take i).foldl (lookStep idx spr) (Ms, q, n) = cs at pm2 l1 l2 l3 l4 ⊢
        have l1 : cs.1.length = Ms.length := l1
        have l2 : cs.1.sum + cs.2.2 ≤ Ms.sum + n := l2
        have l3 : cs.1.sum * Bd + cs.2.1.length ≤ Ms.sum * Bd + q.length := l3
        obtain ⟨lt, _, _, _, w1000⟩ := lo.at1 p (List.mem_of_getElem? hpi)
        have hm : cs.1[p.1]? = some (cs.1.getD p.1 0) := by
          have : p.1 < cs.1.length := by omega
          simp [List.getD_eq_getElem?_getD, this]
        have e3 : Same H2 (upd H2 T (.tup [.ref c, .int (tp p.2 (at' (famM Ms) p.1))])) := sm_new nT
        have e23 := e2.trans e3
        have hTT : (upd H2 T (.tup [.ref c, .int (tp p.2 (at' (famM Ms) p.1))])) T = some (.tup [.ref c, .int (tp p.2 (at' (famM Ms) p.1))]) := upd_same
        have pm3 : PM (upd H2 T (.tup [.ref c, .int (tp p.2 (at' (famM Ms) p.1))])) st tr qu cs.1 cs.2.1 cs.2.2 := ⟨e3 _ _ pm2.s, by obtain ⟨ts, z1, z2⟩ := pm2.t; exact ⟨ts, e3 _ _ z1, z2⟩, e3 _ _ pm2.q⟩
        generalize upd H2 T (.tup [.ref c, .int (tp p.2 (at' (famM Ms) p.1))]) = H3 at e3 e23 hTT pm3
        obtain ⟨⟨kvc, lc, _, c1, c2, c3, c4, c5, c6, _⟩, m1, m2, m3, _⟩ := id pcc
        refine g_nest (st_of hTT) ((tk_of e23).sq hc) ?_
        refine ⟨_, rfl, s, _, rfl, dg (e23 _ _ c1) c4, _, rfl, st, _, (p.1 : Int), _, rfl, rfl, sl_of pm3.s, atI_nat (at_nV hm), _, rfl, _, rfl, _, rfl, tp p.2 (at' (famM Ms) p.1), spr, rfl, rfl, tp p.2 (at' (famM Ms) p.1) - spr, 1, rfl, rfl, w2, p.2, _, rfl, Up.up (tk_of e23) rw2, w1000, fun H4 e4 => ?_⟩
        have e24 := e23.trans e4
        have pm4 : PM H4 st tr qu cs.1 cs.2.1 cs.2.2 := ⟨e4 _ _ pm3.s, by obtain ⟨ts, z1, z2⟩ := pm3.t; exact ⟨ts, e4 _ _ z1, z2⟩, e4 _ _ pm3.q⟩
        refine ⟨(cs.1.getD p.1 0 : Nat), (bitsOf (above p.2 (tp p.2 (at' (famM Ms) p.1) - spr - 1)) : Nat), rfl, rfl, ?_⟩
        dsimp only
        rw [and_nn]
        have hkk : cs.1.getD p.1 0 &&& bitsOf (above p.2 (tp p.2 (at' (famM Ms) p.1) - spr - 1)) = keepAt cs.1 p (tp p.2 (at' (famM Ms) p.1) - spr - 1) := rfl
        rw [hkk]
        generalize hkv : keepAt cs.1 p (tp p.2 (at' (famM Ms) p.1) - spr - 1) = kk
        refine ⟨_, rfl, _, rfl, s, _, rfl, dg (e24 _ _ c1) c4, _, rfl, st, _, (p.1 : Int), _, rfl, rfl, sl_of pm4.s, atI_nat (at_nV hm), rfl, _, rfl, iteB (fun hne => ?_) fun heq => ?_⟩
        · have hne' : kk ≠ cs.1.getD p.1 0 := fun z => by rw [z] at hne; simp at hne
          have ls : lookStep idx spr cs (p, tp p.2 (at' (famM Ms) p.1)) = (cs.1.set p.1 kk, cs.2.1 ++ idx.getD p.1 [], cs.2.2 + 1) := by
            unfold lookStep
            rw [hkv, if_neg hne']
          rw [ls]
          have b1 := hBd p.1
          refine ⟨_, rfl, _, rfl, _, rfl, _, rfl, s, p.1, kk, .int (j : Int), Hc, st, tr, qu, sums, idx, cs.1, cs.2.1, cs.2.2, rfl, e24, pcc, pm4, by omega, by omega, by omega, by omega, fun H5 e5 _ pm5 => ⟨e5, ⟨_, _, _, _, rfl⟩, pm5⟩⟩
        · have heq' : kk = cs.1.getD p.1 0 := by
            have h : decide (V.int (kk : Int) = V.int ((cs.1.getD p.1 0 : Nat) : Int)) = true := by simpa using heq
            have := V.int.inj (of_decide_eq_true h)
            omega
          have ls : lookStep idx spr cs (p, tp p.2 (at' (famM Ms) p.1)) = cs := by
            unfold lookStep
            rw [hkv, if_pos heq']
          rw [ls]
          exact ⟨e24, ⟨_, _, _, _, rfl⟩, pm4⟩
      · obtain ⟨e2, ⟨y6, y7, y8, y9, rfl⟩, pm2⟩ := hP
        have ll : ws.length = (sm.1.map fun p => (p, tp p.2 (at' (famM Ms) p.1))).length := by rw [List.length_map]; exact lw
        rw [ll, List.take_length] at pm2
        refine qT hb1 H2 (eb.trans e2) ?_
        unfold lookAll
        rw [hsp]
        exact pm2
end
end K36
end
section

set_option Elab.async false
set_option linter.all false
set_option maxRecDepth 100000
set_option maxHeartbeats 4000000
/-! The search begun. -/
namespace K36
open PySem PySem.Spec PyProof.Rows L2
abbrev s_begun : Stmt := topS 26
abbrev N_begun : List Str := ["sizes", "sums", "fixed", "index", "number", "line", "choice", "weights", "size"]
theorem sc_begun : FnScope N_begun ["sizes", "sums", "fixed"] (defScope s_begun) := ⟨rfl, rfl, rfl, by decide +kernel, rfl, by decide +kernel, by decide +kernel⟩
/-! ### a dict as it was written -/
theorem putK_new {kvs : List (Key × V)} {k : Key} {v : V} (h : k ∉ kvs.map (·.1)) : putK kvs k v = kvs ++ [(k, v)] := by
  unfold putK
  rw [if_neg]
  intro z
  obtain ⟨q, hq, e⟩ := List.any_eq_true.mp z
  exact h (List.mem_map.mpr ⟨q, hq, of_decide_eq_true e⟩)
theorem mergeK_id : ∀ (more kvs : List (Key × V)), ((kvs ++ more).map (·.1)).Nodup → mergeK kvs more = kvs ++ more
  | [], kvs, _ => by rw [List.append_nil]; rfl
  | p :: more, kvs, h => by
    have e : mergeK kvs (p :: more) = mergeK (putK kvs p.1 p.2) more := rfl
    have np : p.1 ∉ kvs.map (·.1) := fun z => by
      rw [List.map_append] at h
      exact (List.nodup_append.mp h).2.2 _ z _ List.mem_cons_self rfl
    rw [e, putK_new np, mergeK_id more (kvs ++ [p]) (by rw [List.append_assoc]; exact h), List.append_assoc]
    rfl
theorem valV_of : ∀ {kvs : List (Key × V)} {k : Key} {v : V}, (kvs.map (·.1)).Nodup → (k, v) ∈ kvs → valV kvs k = some v
  | [], _, _, _, h => absurd h List.not_mem_nil
  | p :: r, k, v, nd, h => by
    obtain ⟨n1, n2⟩ := List.nodup_cons.mp nd
    rcases List.mem_cons.mp h with e | e
    · subst e
      exact valV_pos rfl
    · rw [valV_neg]
      · exact valV_of n2 e
      · intro z
        exact n1 (List.mem_map.mpr ⟨_, e, z.symm⟩)
/-! ### which sums name a choice -/
def names (s : Sm) (c : Nat) : Bool := s.1.any fun p => p.1 == c
def idxF (sums : List Sm) (k c : Nat) : List Nat := (List.range k).filter fun j => names (sums.getD j ([], 0)) c
def idxOf (n : Nat) (sums : List Sm) : List (List Nat) := (List.range n).map (idxF sums sums.length)
theorem idxOf_at {n : Nat} {sums : List Sm} {c : Nat} : (idxOf n sums).getD c [] = if c < n then idxF sums sums.length c else [] := by
  unfold idxOf
  rw [List.getD_eq_getElem?_getD, List.getElem?_map]
  by_cases h : c < n
  · rw [if_pos h, List.getElem?_range h]; rfl
  · rw [if_neg h, List.getElem?_eq_none (by rw [List.length_range]; omega)]; rfl
theorem idxOf_ok {n : Nat} {sums : List Sm} (hn : ∀ s, s ∈ sums → Named n s) : IdxOk sums (idxOf n sums) sums.length := by
  refine ⟨fun c j s p hj hp e => ?_, fun c j h => ?_, fun c => ?_⟩
  · have hc : c < n := by rw [← e]; exact hn s (List.mem_of_getElem? hj) p hp
    rw [idxOf_at, if_pos hc]
    unfold idxF
    rw [List.mem_filter, List.mem_range]
    refine ⟨(List.getElem?_eq_some_iff.mp hj).1, ?_⟩
    rw [List.getD_eq_getElem?_getD, hj]
    exact List.any_eq_true.mpr ⟨p, hp, by simpa using e⟩
  · rw [idxOf_at] at h
    split at h
    · exact List.mem_range.mp (List.mem_filter.mp h).1
    · exact absurd h List.not_mem_nil
  · rw [idxOf_at]
    split
    · refine Nat.le_trans (List.length_filter_le _ _) ?_
      rw [List.length_range]
      exact Nat.le_refl _
    · exact Nat.zero_le _
theorem idxF_succ {sums : List Sm} {k : Nat} {s : Sm} (h : sums[k]? = some s) (c : Nat) : idxF sums (k + 1) c = idxF sums k c ++ if names s c then [k] else [] := by
  unfold idxF
  rw [List.range_succ, List.filter_append, List.filter_cons, List.filter_nil]
  rw [List.getD_eq_getElem?_getD, h]
  rfl
theorem idxF_le (sums : List Sm) (k c : Nat) : (idxF sums k c).length ≤ k := by
  refine Nat.le_trans (List.length_filter_le _ _) ?_
  rw [List.length_range]
  exact Nat.le_refl _
theorem rg_nV (m : Nat) : rgV 0 (m : Int) = nV (List.range m) := by
  unfold rgV nV
  rw [List.map_map, Int.sub_zero, Int.toNat_natCast]
  refine List.map_congr_left fun i _ => ?_
  show V.int (0 + (i : Int)) = V.int (Int.ofNat i)
  rw [Int.zero_add]
  rfl
/-- the lists of the index -/
structure IxH (H H' : Hp) (D : Addr) (is : List Addr) (f : Nat → List Nat) : Prop where
  s : Same H H'
  l : H' D = some (.lst (is.map V.ref))
  a : ∀ c a, is[c]? = some a → H' a = some (.lst (nV (f c)))
theorem IxH.same {H H1 H2 : Hp} {D : Addr} {is : List Addr} {f : Nat → List Nat} (h : IxH H H1 D is f) (e : Same H1 H2) : IxH H H2 D is f := ⟨h.s.trans e, e _ _ h.l, fun c a x => e _ _ (h.a c a x)⟩
section
variable {P : Program} {w : World} {K : PySem.W.Frag} {mg : Str → Option Value} {base : Heap}
def sp_begun (K : PySem.W.Frag) : Sp := fun vs H Q _ => ∃ v u z sizes sums fx, vs = [v, u, z] ∧ rT K rN H v sizes ∧ rT K (rSm K) H u sums ∧ rT K (rFx K) H z fx ∧ VProb sizes sums fx ∧
  ∀ (s : Addr) Hb st tr qu H', Same H Hb → Same Hb H' → PC K Hb s st tr qu sums (idxOf sizes.length sums) → PM H' st tr qu (firstM sizes fx) (List.range sums.length) 0 → Q (.ref s) H'
theorem ok_begun {f : Addr} {fd : FuncData} (F : Fun K "begun" "begun" s_begun f fd) (B : BI mg) (D_first_sets : Dk P w K mg base 2 "first_sets" ["sizes", "fixed"] (sp_first_sets K)) : FnOk P w K mg base CX0 3 f fd ["sizes", "sums", "fixed"] (sp_begun K) := by
  refine F.ok sc_begun (fun vs H Q E h => ?_) (fun cdv A outer s H vs Q E hr h => ?_)
  · obtain ⟨v, u, z, sizes, sums, fx, rfl, _⟩ := h
    rfl
  · obtain ⟨_, _, _, sizes, sums, fx, rfl, ⟨a, us, rfl, hT, hp⟩, ⟨b, ws, rfl, hT2, hp2⟩, ⟨c, xs, rfl, hT3, hp3⟩, vp, q⟩ := h
    have l1 : us.length = sizes.length := hp.length
    have l2 : ws.length = sums.length := hp2.length
    have few1 := vp.vz.few
    have few2 := vp.few
    refine ⟨_, (pss_cons (ps_setLc (i := 3) (own := [("size", 8)]) (g := gName 8) (tt := tYes) rfl sc_begun.nd rfl rfl (sw_true rfl rfl rfl (by decide +kernel)) (piT K (pv 0)) (blkOk_by (own := [("size", 8)]) (N := N_begun) (sc := (defScope s_begun)) (by decide +kernel)) (fun _ _ _ _ _ => (pg_name (i := 8) sc_begun.nd rfl (Or.inl rfl))) (fun _ _ _ _ _ => pts_nil) (fun _ _ _ _ _ => (pe_lst pa_nil)))
      (pss_cons (ps_for PassesOwn.never rfl (pi_enumT (by rfl) B.enumerate (pa_cons (pv 1) pa_nil)) (pgT K rfl (pgs_cons (pg_name (i := 4) sc_begun.nd rfl (Or.inl rfl)) (pgs_cons (pg_name (i := 5) sc_begun.nd rfl (Or.inl rfl)) pgs_nil))) (pss_one (ps_for PassesOwn.never rfl (piT K (pe_ix (ixT K) (pv 5) pe_int (fun _ _ => rfl))) (pgT K rfl (pgs_cons (pg_name (i := 6) sc_begun.nd rfl (Or.inl rfl)) (pgs_cons (pg_name (i := 7) sc_begun.nd rfl (Or.inl rfl)) pgs_nil))) (pss_one (ps_expr (pe_bm PySem.F.plainAttrs_list PySem.F.slot_list_append PySem.F.type_list_append mt_append (pe_ix (ixL K) (pv 3) (pv 6) (fun _ _ => rfl)) (pa_cons (pv 4) pa_nil)))))))
      (pss_one (ps_ret (pe_disp (pps_cons pe_str (pv 0) (pps_cons pe_str (pe_callTy call_list_of (by rfl) B.list (by decide +kernel) (pa_cons (pv 1) pa_nil)) (pps_cons pe_str (pe_callB call_len_seq (by rfl) B.len (by decide +kernel) (pa_cons (pv 1) pa_nil)) (pps_cons pe_str (pv 3) (pps_cons pe_str (pe_callD D_first_sets hr (pa_cons (pv 0) (pa_cons (pv 2) pa_nil))) (pps_cons pe_str (pe_lst pa_nil) (pps_cons pe_str (pe_lst pa_nil) (pps_cons pe_str pe_dnewK (pps_cons pe_str (pe_listRg rfl (by rfl) B.list (prg_1 (by rfl) B.range (pe_callB call_len_seq (by rfl) B.len (by decide +kernel) (pa_cons (pv 1) pa_nil)))) (pps_cons pe_str pe_non pps_nil)))))))))) (by rfl) (by rfl) (fun z => by cases z) (by decide)))))), ?_⟩
    refine ⟨_, rfl, a, rfl, ⟨us, hT⟩, fun D nD => lc_it walk_tup (fun i H' => Same H H' ∧ ∃ is : List Addr, is.length = i ∧ H' D = some (.lst (is.map V.ref)) ∧ is.Nodup ∧ ∀ a, a ∈ is → H a = none ∧ a ≠ D ∧ H' a = some (.lst []))
      ⟨sm_new nD, [], rfl, upd_same, List.nodup_nil, fun a h => absurd h List.not_mem_nil⟩ (fun i H' _ h => (tk_of h.1).sq hT) (fun i x H2 H3 hi hP hy => ?_) fun H1 hP => ?_⟩
    · obtain ⟨rfl, hx⟩ := hy
      obtain ⟨e, is, il, hD, nd, hall⟩ := hP
      have nD : H D = none := nD
      refine ⟨rfl, Nat.zero_le _, fun l nl => ⟨is.map V.ref, ?_, by rw [List.length_map]; exact szl (by omega), ?_, is ++ [l], by rw [List.length_append, il]; rfl, ?_, ?_, ?_⟩⟩
      · rw [upd_ne (ne_of_none hD nl)]; exact hD
      · exact sm_mut (e.trans (sm_new nl)) nD
      · rw [upd_same, List.map_append]; rfl
      · rw [List.nodup_append]
        refine ⟨nd, List.nodup_cons.mpr ⟨List.not_mem_nil, List.nodup_nil⟩, fun x hx y hy z => ?_⟩
        rw [List.mem_singleton.mp hy] at z
        subst z
        rw [(hall x hx).2.2] at nl
        cases nl
      · intro x hx
        rcases List.mem_append.mp hx with z | z
        · obtain ⟨h1, h2, h3⟩ := hall x z
          refine ⟨h1, h2, ?_⟩
          rw [upd_ne h2, upd_ne (ne_of_none h3 nl)]
          exact h3
        · have z := List.mem_singleton.mp z
          subst z
          have n2 : x ≠ D := fun z => by rw [z, hD] at nl; cases nl
          refine ⟨?_, n2, ?_⟩
          · cases hh : H x with
            | none => rfl
            | some o => rw [e _ _ hh] at nl; cases nl
          · rw [upd_ne n2, upd_same]
    · obtain ⟨e, is, il, hD, nd, hall⟩ := hP
      have nD : H D = none := nD
      have il : is.length = sizes.length := by omega
      have start : IxH H H1 D is (idxF sums 0) := ⟨e, hD, fun c a h => (hall a (List.mem_of_getElem? h)).2.2⟩
      have hall : ∀ a, a ∈ is → H a = none ∧ a ≠ D := fun a h => ⟨(hall a h).1, (hall a h).2.1⟩
      refine ⟨_, rfl, b, ws, rfl, (tk_of e).sq hT2, for_it walk_enumT (fun k σ H' => IxH H H' D is (idxF sums k) ∧ ∃ y4 y5 y6 y7 y8, σ = [some (.ref a), some (.ref b), some (.ref c), some (.ref D), y4, y5, y6, y7, y8]) ⟨start, _, _, _, _, _, rfl⟩ (fun i σ H' _ h => (tk_of h.1.s).sq hT2) (fun k x σ H2 H3 hk hP hy => ?_) fun σ H2 hP => ?_⟩
      · obtain ⟨ih, y4, y5, y6, y7, y8, rfl⟩ := hP
        obtain ⟨T, z1, z2, rfl, nT, rfl, hz1, hz2⟩ := hy
        obtain ⟨sm, hsm, ⟨c2, w1, w2, rfl, hc2, ⟨d, ts, rfl, hd, hpt⟩, _⟩⟩ := pd_get hp2 hz2
        have hz1 : some (V.int (k : Int)) = some z1 := hz1
        cases hz1
        have vs := (vp.vs sm (List.mem_of_getElem? hsm)).terms
        have klt : k < sums.length := (List.getElem?_eq_some_iff.mp hsm).1
        have e3 := sm_new nT (o := .tup [.int (k : Int), .ref c2])
        refine g_pair (st_of upd_same) ⟨_, rfl, c2, _, 0, _, rfl, rfl, (tk_of (ih.s.trans e3)).sq hc2, atI_nat (j := 0) rfl, d, rfl, ⟨ts, (tk_of (ih.s.trans e3)).sq hd⟩, ?_⟩
        refine for_tup (xs := ts) (fun i σ H' => IxH H H' D is (fun x => idxF sums k x ++ if (sm.1.take i).any (fun p => p.1 == x) then [k] else []) ∧ ∃ y6 y7 y8, σ = [some (.ref a), some (.ref b), some (.ref c), some (.ref D), some (.int (k : Int)), some (.ref c2), y6, y7, y8]) ⟨?_, _, _, _, rfl⟩ (fun i σ H' _ h => (tk_of h.1.s).sq hd) (fun i x σ H4 hx hP => ?_) fun σ H4 hP => ?_
        · have := ih.same e3
          refine ⟨this.s, this.l, fun c a h => ?_⟩
          rw [this.a c a h]
          simp
        · obtain ⟨ih4, y6, y7, y8, rfl⟩ := hP
          obtain ⟨p, hpi, g, x1, x2, rfl, hg, hx1, hx2⟩ := pd_get hpt hx
          have hx1 : x1 = .int (p.1 : Nat) := hx1
          subst hx1
          have pl := (vs.at1 p (List.mem_of_getElem? hpi)).1
          obtain ⟨ad, had⟩ : ∃ ad, is[p.1]? = some ad := ⟨_, List.getElem?_eq_getElem (by omega)⟩
          have hA := ih4.a _ _ had
          obtain ⟨na, nd'⟩ := hall ad (List.mem_of_getElem? had)
          refine g_pair ((tk_of ih4.s).sq hg) ⟨_, rfl, _, rfl, D, _, (p.1 : Int), .ref ad, rfl, rfl, sl_of ih4.l, atI_nat (by rw [List.getElem?_map, had]; rfl), .inl ⟨rfl, _, sl_of hA⟩, _, rfl, ad, _, _, rfl, rfl, hA, ?_, ?_, _, _, _, rfl⟩
          · rw [nV_len]
            refine szl ?_
            have := idxF_le sums k p.1
            rw [List.length_append]
            split <;> simp <;> omega
          · refine ⟨sm_mut ih4.s na, by rw [upd_ne nd'.symm]; exact ih4.l, fun x ax hax => ?_⟩
            rw [List.take_add_one, hpi, List.any_append]
            by_cases z : x = p.1
            · subst z
              have ea : ax = ad := by rw [had] at hax; exact (Option.some.inj hax).symm
              subst ea
              have none' : (sm.1.take i).any (fun q => q.1 == p.1) = false := by
                rw [List.any_eq_false]
                intro q hq hqe
                have hqe : q.1 = p.1 := by simpa using hqe
                obtain ⟨j, hj⟩ := List.mem_iff_getElem?.mp hq
                rw [List.getElem?_take] at hj
                split at hj
                · rename_i ji
                  obtain ⟨l1, g1⟩ := List.getElem?_eq_some_iff.mp hj
                  obtain ⟨l2, g2⟩ := List.getElem?_eq_some_iff.mp hpi
                  have := (List.pairwise_iff_getElem.mp vs.asc) j i l1 l2 ji
                  rw [g1, g2] at this
                  omega
                · cases hj
              rw [upd_same, nV_snoc, none']
              simp
            · have ea : ax ≠ ad := fun y => by
                subst y
                have l1 := (List.getElem?_eq_some_iff.mp hax)
                have l2 := (List.getElem?_eq_some_iff.mp had)
                obtain ⟨l1, g1⟩ := l1
                obtain ⟨l2, g2⟩ := l2
                have nd' := List.pairwise_iff_getElem.mp nd
                rcases Nat.lt_trichotomy x p.1 with y | y | y
                · exact nd' x p.1 l1 l2 y (g1.trans g2.symm)
                · exact z y
                · exact nd' p.1 x l2 l1 y (g2.trans g1.symm)
              rw [upd_ne ea, ih4.a x ax hax]
              have z' : (p.1 == x) = false := by simpa using fun y : p.1 = x => z y.symm
              rw [show (some p).toList = [p] from rfl, List.any_cons, List.any_nil, z', Bool.or_false, Bool.or_false]
        · obtain ⟨ih4, y6, y7, y8, rfl⟩ := hP
          rw [hpt.length, List.take_length] at ih4
          refine ⟨⟨ih4.s, ih4.l, fun x ax hax => ?_⟩, _, _, _, _, _, rfl⟩
          rw [idxF_succ hsm]
          exact ih4.a x ax hax
      · obtain ⟨ih, y4, y5, y6, y7, y8, rfl⟩ := hP
        have il2 := l2
        refine fun p np => ⟨_, rfl, _, rfl, b, ws, rfl, .inr ((tk_of (ih.s.trans (sm_new np))).sq hT2), fun l nl => ?_⟩
        have eA : Same H (upd H2 p (.dK [])) := ih.s.trans (sm_new np)
        have nsd : ∀ {x o}, H2 x = some o → x ≠ p := fun h => ne_of_none h np
        have ihA := ih.same (sm_new np (o := .dK []))
        have pA : (upd H2 p (.dK [])) p = some (.dK []) := upd_same
        generalize upd H2 p (.dK []) = HA at nl eA ihA pA
        have eB : Same HA (upd HA l (.lst ws)) := sm_new nl
        have lB : (upd HA l (.lst ws)) l = some (.lst ws) := upd_same
        have lp : l ≠ p := fun z => by rw [z, pA] at nl; cases nl
        generalize upd HA l (.lst ws) = HB at eB lB
        have eHB := eA.trans eB
        refine ⟨_, rfl, b, ws, rfl, .inr ((tk_of eHB).sq hT2), _, rfl, _, rfl, _, rfl, _, _, sizes, fx, rfl, ⟨a, us, rfl, (tk_of eHB).sq hT, up_all (tk_of eHB) hp⟩, ⟨c, xs, rfl, (tk_of eHB).sq hT3, up_all (tk_of eHB) hp3⟩, vp.vz, vp.vf, fun st HC eC nst hst => ?_⟩
        refine ⟨Nat.zero_le _, fun tr ntr => ⟨Nat.zero_le _, fun sp nsp pl npl => ?_⟩⟩
        have eD : Same HC (upd HC tr (.lst [])) := sm_new ntr
        have tD : (upd HC tr (.lst [])) tr = some (.lst []) := upd_same
        generalize upd HC tr (.lst []) = HD at nsp npl eD tD
        have eE : Same HD (upd HD sp (.lst [])) := sm_new nsp
        generalize upd HD sp (.lst []) = HE at npl eE
        have eF : Same HE (upd HE pl (.dK [])) := sm_new npl
        generalize upd HE pl (.dK []) = HF at eF
        have eCF := eD.trans (eE.trans eF)
        have eHF := eHB.trans (eC.trans eCF)
        refine ⟨_, rfl, b, ws, rfl, .inr ((tk_of eHF).sq hT2), _, rfl, RgOk.of_le (by omega) (by omega) (by omega) (by omega), fun qu nqu => ?_⟩
        rw [l2, rg_nV]
        have eG : Same HF (upd HF qu (.lst (nV (List.range sums.length)))) := sm_new nqu
        have qG : (upd HF qu (.lst (nV (List.range sums.length)))) qu = some (.lst (nV (List.range sums.length))) := upd_same
        generalize upd HF qu (.lst (nV (List.range sums.length))) = HG at eG qG
        have pG : HG p = some (.dK []) := (eB.trans (eC.trans (eCF.trans eG))) _ _ pA
        refine ⟨pG, [(.inr "sizes", .ref a), (.inr "sums", .ref l), (.inr "told", .int (sums.length : Nat)), (.inr "index", .ref D), (.inr "sets", .ref st), (.inr "trail", .ref tr), (.inr "steps", .ref sp), (.inr "places", .ref pl), (.inr "queue", .ref qu), (.inr "done", .non)], rfl, Nat.le_of_ble_eq_true rfl, ?_⟩
        have nd2 : ∀ x1 x2 x3 x4 x5 x6 x7 x8 x9 x10 : V, ([((.inr "sizes" : Key), x1), (.inr "sums", x2), (.inr "told", x3), (.inr "index", x4), (.inr "sets", x5), (.inr "trail", x6), (.inr "steps", x7), (.inr "places", x8), (.inr "queue", x9), (.inr "done", x10)].map (·.1)).Nodup := fun _ _ _ _ _ _ _ _ _ _ => by
          show ([(.inr "sizes" : Key), .inr "sums", .inr "told", .inr "index", .inr "sets", .inr "trail", .inr "steps", .inr "places", .inr "queue", .inr "done"]).Nodup
          decide +kernel
        rw [mergeK_id _ [] (nd2 _ _ _ _ _ _ _ _ _ _), List.nil_append]
        have nd3 := nd2 (.ref a) (.ref l) (.int (sums.length : Nat)) (.ref D) (.ref st) (.ref tr) (.ref sp) (.ref pl) (.ref qu) .non
        generalize hkv : [((.inr "sizes" : Key), V.ref a), (.inr "sums", .ref l), (.inr "told", .int (sums.length : Nat)), (.inr "index", .ref D), (.inr "sets", .ref st), (.inr "trail", .ref tr), (.inr "steps", .ref sp), (.inr "places", .ref pl), (.inr "queue", .ref qu), (.inr "done", .non)] = kvs at nd3 ⊢
        have v2 := valV_of nd3 (k := .inr "sums") (v := .ref l) (by rw [← hkv]; simp)
        have v4 := valV_of nd3 (k := .inr "index") (v := .ref D) (by rw [← hkv]; simp)
        have v5 := valV_of nd3 (k := .inr "sets") (v := .ref st) (by rw [← hkv]; simp)
        have v6 := valV_of nd3 (k := .inr "trail") (v := .ref tr) (by rw [← hkv]; simp)
        have v9 := valV_of nd3 (k := .inr "queue") (v := .ref qu) (by rw [← hkv]; simp)
        have eBF := eC.trans eCF
        have eBG := eBF.trans eG
        have n1 : ∀ {x o}, HB x = some o → x ≠ st ∧ x ≠ tr ∧ x ≠ qu := fun h => ⟨ne_of_none h nst, ne_of_none (eC _ _ h) ntr, ne_of_none (eBF _ _ h) nqu⟩
        have np1 := n1 (eB _ _ pA)
        have st_tr : st ≠ tr := ne_of_none hst ntr
        have st_qu : st ≠ qu := ne_of_none (eCF _ _ hst) nqu
        have tr_qu : tr ≠ qu := ne_of_none ((eE.trans eF) _ _ tD) nqu
        have kp : ∀ {x o}, HB x = some o → x ≠ p → (cut3 (upd HG p (.dK kvs)) st tr qu) x = some o := fun h hp => by
          obtain ⟨m1, m2, m3⟩ := n1 h
          rw [cut3_at m1 m2 m3, upd_ne hp]
          exact eBG _ _ h
        have hs : Same H (cut3 (upd HG p (.dK kvs)) st tr qu) := fun x o h => kp (eHB _ _ h) (nsd (ih.s _ _ h))
        refine q p _ st tr qu _ hs (cut3_same _ _ _ _) ⟨⟨kvs, l, D, ?_, v2, v4, v5, v6, v9, ⟨ws, kp lB lp, up_all (tk_of hs) hp2⟩, is, kp (eB _ _ ihA.l) (nsd ih.l), ?_, fun x ax hax => ?_⟩, cut3_1 _ _ _ _, cut3_2 _ _ _ _, cut3_3 _ _ _ _, st_tr, st_qu, tr_qu⟩ ⟨?_, ⟨[], ?_, rfl⟩, ?_⟩
        · rw [cut3_at np1.1 np1.2.1 np1.2.2, upd_same]
        · unfold idxOf
          rw [List.length_map, List.length_range]
          exact il
        · have xl : x < sizes.length := by rw [← il]; exact (List.getElem?_eq_some_iff.mp hax).1
          have h := ihA.a x ax hax
          rw [l2] at h
          rw [idxOf_at, if_pos xl]
          exact kp (eB _ _ h) (nsd (ih.a x ax hax))
        · rw [upd_ne np1.1.symm]; exact (eCF.trans eG) _ _ hst
        · rw [upd_ne np1.2.1.symm]; exact (eE.trans (eF.trans eG)) _ _ tD
        · rw [upd_ne np1.2.2.symm]; exact qG
end
end K36
end
section

set_option Elab.async false
set_option linter.all false
set_option maxRecDepth 100000
set_option maxHeartbeats 4000000
/-! narrowed. -/
namespace K36
open PySem PySem.Spec PyProof.Rows L2
abbrev s_narrowed : Stmt := topS 31
abbrev N_narrowed : List Str := ["sizes", "sums", "fixed", "state"]
theorem sc_narrowed : FnScope N_narrowed ["sizes", "sums", "fixed"] (defScope s_narrowed) := ⟨rfl, rfl, rfl, by decide +kernel, rfl, by decide +kernel, by decide +kernel⟩
/-! ### data that is laid -/
def okD (k : Nat) (d : PyData) : Prop := d.canLay0 = true ∧ d.depth ≤ k
theorem okD_int (k : Nat) (n : Int) : okD k (.int n) := ⟨rfl, Nat.zero_le _⟩
theorem okD_all {k : Nat} : ∀ {ds : List PyData}, (∀ d, d ∈ ds → okD k d) → PyData.canLayAll0 ds = true ∧ PyData.depthAll ds ≤ k
  | [], _ => ⟨rfl, Nat.zero_le _⟩
  | d :: ds, h => by
    obtain ⟨h1, h2⟩ := h d List.mem_cons_self
    obtain ⟨h3, h4⟩ := okD_all (ds := ds) fun e he => h e (List.mem_cons_of_mem _ he)
    refine ⟨?_, ?_⟩
    · show (d.canLay0 && PyData.canLayAll0 ds) = true
      rw [h1, h3]; rfl
    · show max d.depth (PyData.depthAll ds) ≤ k
      omega
theorem okD_tup {k : Nat} {ds : List PyData} (h : ∀ d, d ∈ ds → okD k d) : okD (k + 1) (.tuple ds) := by
  obtain ⟨h1, h2⟩ := okD_all h
  refine ⟨h1, ?_⟩
  show PyData.depthAll ds + 1 ≤ k + 1
  omega
theorem okD_lst {k : Nat} {ds : List PyData} (h : ∀ d, d ∈ ds → okD k d) : okD (k + 1) (.list ds) := by
  obtain ⟨h1, h2⟩ := okD_all h
  refine ⟨h1, ?_⟩
  show PyData.depthAll ds + 1 ≤ k + 1
  omega
theorem shp {k : Nat} {d : PyData} (h : okD k d) (hk : k ≤ 64) : SeqAt.shaped d = true := by
  unfold SeqAt.shaped
  rw [h.1, decide_eq_true (Nat.le_trans h.2 hk)]
  rfl
theorem eqv_nil (ds : List PyData) : PyData.eqv (.list ds) (.list []) = ds.isEmpty := by cases ds <;> rfl
section
variable {α : Type} {K : PySem.W.Frag} {R : Rp α} {H : Hp}
/-- what tells R is data -/
def IsD (K : PySem.W.Frag) (R : Rp α) (dd : α → PyData) (k : Nat) : Prop := ∀ H v x, R H v x → Dp K H v (dd x) ∧ okD k (dd x)
theorem isD_all {dd : α → PyData} {k : Nat} (h : IsD K R dd k) : ∀ {us : List V} {xs : List α}, Paired (R H) us xs → DpAll K H us (xs.map dd) ∧ ∀ d, d ∈ xs.map dd → okD k d
  | _, _, .nil => ⟨.nil, fun _ z => absurd z List.not_mem_nil⟩
  | _, _, .cons r t => by
    obtain ⟨h1, h2⟩ := isD_all h t
    refine ⟨.cons (h _ _ _ r).1 h1, fun d hd => ?_⟩
    rcases List.mem_cons.mp hd with z | z
    · rw [z]; exact (h _ _ _ r).2
    · exact h2 d z
theorem isD_I : IsD K rI PyData.int 0 := fun H v x r => by
  have r : v = .int x := r
  subst r
  exact ⟨.int _, okD_int 0 _⟩
def dN (n : Nat) : PyData := .int (n : Int)
theorem isD_N : IsD K rN dN 0 := fun H v x r => by
  have r : v = .int (x : Int) := r
  subst r
  exact ⟨.int _, okD_int 0 _⟩
def dT (dd : α → PyData) (xs : List α) : PyData := .tuple (xs.map dd)
theorem isD_T {dd : α → PyData} {k : Nat} (h : IsD K R dd k) : IsD K (rT K R) (dT dd) (k + 1) := fun H v x r => by
  obtain ⟨a, us, rfl, hT, hp⟩ := r
  obtain ⟨h1, h2⟩ := isD_all h hp
  exact ⟨.tup hT h1, okD_tup h2⟩
/-- a list held against [] -/
theorem ne_nil {Q : VK} {dd : α → PyData} {k : Nat} {a : Addr} {us : List V} {xs : List α} {b : Addr} (h : IsD K R dd k) (hk : k < 64) (hl : SqL K H a us) (hp : Paired (R H) us xs) (hb : SqL K H b []) (hq : Q (.bl (!xs.isEmpty)) H) : rNeD K (.ref a) (.ref b) H Q := by
  obtain ⟨h1, h2⟩ := isD_all h hp
  refine ⟨_, _, .lst hl h1, .lst hb .nil, shp (okD_lst h2) hk, rfl, ?_⟩
  rw [eqv_nil, List.isEmpty_map]
  exact hq
theorem eq_nil {Q : VK} {dd : α → PyData} {k : Nat} {a : Addr} {us : List V} {xs : List α} {b : Addr} (h : IsD K R dd k) (hk : k < 64) (hl : SqL K H a us) (hp : Paired (R H) us xs) (hb : SqL K H b []) (hq : Q (.bl xs.isEmpty) H) : rEqD K (.ref a) (.ref b) H Q := by
  obtain ⟨h1, h2⟩ := isD_all h hp
  refine ⟨_, _, .lst hl h1, .lst hb .nil, shp (okD_lst h2) hk, rfl, ?_⟩
  rw [eqv_nil, List.isEmpty_map]
  exact hq
end
/-! ### where narrowed starts -/
def let0 (sizes : List Nat) (fx : List (Nat × List Nat)) : Fam := fx.foldl (fun L p => L.set p.1 p.2) (sizes.map List.range)
theorem let0_eq {sizes : List Nat} {fx : List (Nat × List Nat)} (h : ∀ p, p ∈ fx → asc p.2) : famM (firstM sizes fx) = let0 sizes fx := by
  have go : ∀ (fx : List (Nat × List Nat)) (M : List Nat), (∀ p, p ∈ fx → asc p.2) → famM (fx.foldl (fun M p => M.set p.1 (bitsOf p.2)) M) = fx.foldl (fun L p => L.set p.1 p.2) (famM M) := by
    intro fx
    induction fx with
    | nil => intro M _; rfl
    | cons p fx ih =>
      intro M h
      rw [List.foldl_cons, List.foldl_cons, ih _ fun q hq => h q (List.mem_cons_of_mem _ hq), famM_set, vl_bits (h p List.mem_cons_self)]
  unfold firstM let0
  rw [go fx _ h]
  congr 1
  unfold famM
  rw [List.map_map]
  exact List.map_congr_left fun z _ => vl_full z
theorem let0_len (sizes : List Nat) (fx : List (Nat × List Nat)) : (let0 sizes fx).length = sizes.length := by
  have go : ∀ (fx : List (Nat × List Nat)) (M : Fam), (fx.foldl (fun M p => M.set p.1 p.2) M).length = M.length := by
    intro fx
    induction fx with
    | nil => intro M; rfl
    | cons p fx ih => intro M; rw [List.foldl_cons, ih, List.length_set]
  unfold let0
  rw [go, List.length_map]
theorem let0_at {sizes : List Nat} {fx : List (Nat × List Nat)} (vz : VSizes sizes) (vf : ∀ p, p ∈ fx → p.1 < sizes.length ∧ VSet p.2 (sizes.getD p.1 0)) (c : Nat) :
    asc (at' (let0 sizes fx) c) ∧ (∀ v, v ∈ at' (let0 sizes fx) c → v < sizes.getD c 0) ∧ (c < sizes.length → at' (let0 sizes fx) c ≠ []) := by
  have go : ∀ (fx : List (Nat × List Nat)) (L : Fam), (∀ p, p ∈ fx → p.1 < sizes.length ∧ VSet p.2 (sizes.getD p.1 0)) → L.length = sizes.length →
      (asc (at' L c) ∧ (∀ v, v ∈ at' L c → v < sizes.getD c 0) ∧ (c < sizes.length → at' L c ≠ [])) →
      (asc (at' (fx.foldl (fun M p => M.set p.1 p.2) L) c) ∧ (∀ v, v ∈ at' (fx.foldl (fun M p => M.set p.1 p.2) L) c → v < sizes.getD c 0) ∧ (c < sizes.length → at' (fx.foldl (fun M p => M.set p.1 p.2) L) c ≠ [])) := by
    intro fx
    induction fx with
    | nil => intro L _ _ h; exact h
    | cons p fx ih =>
      intro L hv hl h
      rw [List.foldl_cons]
      refine ih _ (fun q hq => hv q (List.mem_cons_of_mem _ hq)) (by rw [List.length_set]; exact hl) ?_
      obtain ⟨_, vs⟩ := hv p List.mem_cons_self
      rw [at_set]
      split
      · rename_i z
        rw [z.1]
        exact ⟨vs.asc, vs.lt, fun _ => vs.ne⟩
      · exact h
  refine go fx _ vf (List.length_map ..) ?_
  have e : at' (sizes.map List.range) c = List.range (sizes.getD c 0) := by
    unfold at'
    rw [List.getD_eq_getElem?_getD, List.getD_eq_getElem?_getD, List.getElem?_map]
    cases sizes[c]? <;> rfl
  rw [e]
  refine ⟨asc_range _, fun v hv => List.mem_range.mp hv, fun hc => ?_⟩
  have h1 : sizes.getD c 0 = sizes[c] := by simp [List.getD_eq_getElem?_getD, hc]
  have h2 := (vz.all _ (List.getElem_mem hc)).1
  intro z
  have h3 := congrArg List.length z
  rw [List.length_range, h1] at h3
  simp at h3
  omega
theorem sum_le16 : ∀ {Ms : List Nat}, (∀ m, m ∈ Ms → m < 16) → Ms.sum ≤ 16 * Ms.length
  | [], _ => Nat.le_refl _
  | m :: Ms, h => by
    have h1 := h m List.mem_cons_self
    have h2 := sum_le16 (Ms := Ms) fun x hx => h x (List.mem_cons_of_mem _ hx)
    rw [List.sum_cons, List.length_cons]
    omega
theorem sm_ok {sizes : List Nat} {s : Sm} (h : VSm sizes s) {n : Nat} (hn : n = sizes.length) : SmOk n sizes s := ⟨fun p hp => by rw [hn]; exact (h.terms.at1 p hp).1, h.terms.asc, fun p hp => (h.terms.at1 p hp).2⟩
/-- masks within what is let -/
theorem mask16 {sizes : List Nat} {L0 : Fam} (h4 : ∀ c, sizes.getD c 0 ≤ 4) (hL : ∀ c v, v ∈ at' L0 c → v < sizes.getD c 0) {Ms : List Nat} (hs : Sub (famM Ms) L0) (c : Nat) : Ms.getD c 0 < 16 := by
  refine Nat.lt_pow_two_of_testBit (n := 4) _ fun i hi => ?_
  cases hb : (Ms.getD c 0).testBit i with
  | false => rfl
  | true =>
    have h1 : i ∈ at' (famM Ms) c := by rw [at_famM]; exact mem_vl.mpr hb
    have h2 := hL c i (hs c i h1)
    have := h4 c
    omega
section
variable {P : Program} {w : World} {K : PySem.W.Frag} {mg : Str → Option Value} {base : Heap}
abbrev rFam (K : PySem.W.Frag) : Rp Fam := rT K (rT K rN)
def rNar (K : PySem.W.Frag) : Rp (Option Fam) := fun H v r => match r with
  | none => v = .non
  | some S => rFam K H v S
instance : Up (rNar K) := ⟨fun {H H' v x} e h => by
  cases x with
  | none => exact h
  | some S => exact Up.up (R := rFam K) e h⟩
/-- small enough -/
structure Bnd (sizes : List Nat) (sums : List Sm) : Prop where
  four : ∀ z, z ∈ sizes → z ≤ 4
  few : sums.length ≤ 100
def sp_narrowed (K : PySem.W.Frag) : Sp := fun vs H Q _ => ∃ v u z sizes sums fx, vs = [v, u, z] ∧ rT K rN H v sizes ∧ rT K (rSm K) H u sums ∧ rT K (rFx K) H z fx ∧ VProb sizes sums fx ∧ Bnd sizes sums ∧
  ∀ r v H', Same H H' → IsNar (let0 sizes fx) sums r → rNar K H' v r → Q v H'
theorem ok_narrowed {f : Addr} {fd : FuncData} (F : Fun K "narrowed" "narrowed" s_narrowed f fd) (B : BI mg) (D_check_problem : Dk P w K mg base 7 "check_problem" ["sizes", "sums", "fixed"] (sp_check_problem K)) (D_begun : Dk P w K mg base 3 "begun" ["sizes", "sums", "fixed"] (sp_begun K)) (D_look : Dk P w K mg base 4 "look" ["state", "number"] (sp_look K)) (D_told_sets : Dk P w K mg base 2 "told_sets" ["sets"] (sp_told_sets K)) : FnOk P w K mg base CX0 8 f fd ["sizes", "sums", "fixed"] (sp_narrowed K) := by
  refine F.ok sc_narrowed (fun vs H Q E h => ?_) (fun cdv A outer sh H vs Q E hr h => ?_)
  · obtain ⟨v, u, z, sizes, sums, fx, rfl, _⟩ := h
    rfl
  · obtain ⟨v, u, z, sizes, sums, fx, rfl, h1, h2, h3, vp, bd, q⟩ := h
    -- the facts
    have z100 := vp.vz.few
    have s100 := bd.few
    have h4 : ∀ c, sizes.getD c 0 ≤ 4 := fun c => by
      rw [List.getD_eq_getElem?_getD]
      cases e : sizes[c]? with
      | none => exact Nat.zero_le _
      | some y => exact bd.four y (List.mem_of_getElem? e)
    have L0f := let0_eq (sizes := sizes) (fx := fx) fun p hp => (vp.vf.at1 p hp).2.asc
    have L0l := let0_len sizes fx
    have L0a := fun c => let0_at (fx := fx) vp.vz vp.vf.at1 c
    have smok : ∀ s, s ∈ sums → SmOk (let0 sizes fx).length sizes s := fun s hs => sm_ok (vp.vs s hs) L0l
    have hIdx : IdxOk sums (idxOf sizes.length sums) sums.length := idxOf_ok fun s hs => by have := (smok s hs).named; rw [L0l] at this; exact this
    have m16 : ∀ Ms, Sub (famM Ms) (let0 sizes fx) → ∀ c, Ms.getD c 0 < 16 := fun Ms hs c => mask16 h4 (fun c => (L0a c).2.1) hs c
    have lkOk : ∀ Ms q sm, SInv (let0 sizes fx) sums Ms q → sm ∈ sums → LookOk Ms sm := fun Ms q sm hS hsm => by
      have so := smok sm hsm
      have lM : Ms.length = (let0 sizes fx).length := by rw [← hS.mid.len]; exact (List.length_map ..).symm
      refine ⟨by have := (vp.vs sm hsm).terms.few; omega, fun p hp => ?_⟩
      have nm := so.named p hp
      refine ⟨by rw [lM]; exact nm, Nat.lt_of_lt_of_le (m16 Ms hS.mid.sub p.1) (by decide), by rw [← at_famM]; exact hS.mid.ne _ nm, fun v hv => ?_, ?_⟩
      · rw [so.len p hp]
        rw [← at_famM] at hv
        exact (L0a p.1).2.1 v (hS.mid.sub _ _ hv)
      · rw [so.len p hp]
        have := h4 p.1
        omega
    refine ⟨_, (pss_cons (ps_expr (pe_callD D_check_problem hr (pa_cons (pv 0) (pa_cons (pv 1) (pa_cons (pv 2) pa_nil)))))
      (pss_cons (ps_set (i := 3) sc_narrowed.nd rfl (Or.inl rfl) (pe_callD D_begun hr (pa_cons (pv 0) (pa_cons (pv 1) (pa_cons (pv 2) pa_nil)))))
      (pss_cons (ps_while PassesOwn.never (pt_cmpR (opNe K hr.units) (pe_dget (hu_of hr) (pv 3) pe_str (fun _ _ => rfl)) (pe_lst pa_nil) (nomark _)) (pss_one (ps_if (pt_not (pt_val (pe_callD D_look hr (pa_cons (pv 3) (pa_cons (pe_bm0 PySem.F.plainAttrs_list PySem.F.slot_list_pop PySem.F.type_list_pop mt_pop (pe_dget (hu_of hr) (pv 3) pe_str (fun _ _ => rfl))) pa_nil))))) (pss_one (ps_ret pe_non)) pss_nil)))
      (pss_one (ps_ret (pe_callD D_told_sets hr (pa_cons (pe_dget (hu_of hr) (pv 3) pe_str (fun _ _ => rfl)) pa_nil))))))), ?_⟩
    refine ⟨_, rfl, _, rfl, _, rfl, v, u, z, sizes, sums, fx, rfl, h1, h2, h3, vp, fun x H1 e1 => ?_⟩
    refine ⟨_, rfl, _, rfl, _, rfl, v, u, z, sizes, sums, fx, rfl, Up.up (tk_of e1) h1, Up.up (tk_of e1) h2, Up.up (tk_of e1) h3, vp, fun s Hb st tr qu H2 eb e2 pc pm => ?_⟩
    have pc0 := pc
    obtain ⟨⟨kvs, ls, ix, g1, g2, g3, g4, g5, g6, _⟩, n1, n2, n3, d12, d13, d23⟩ := pc
    have eHb := e1.trans eb
    have S0 : SInv (let0 sizes fx) sums (firstM sizes fx) (List.range sums.length) := by
      refine ⟨?_, fun j s hj hn => absurd (List.mem_range.mpr (List.getElem?_eq_some_iff.mp hj).1) hn, fun j hj => List.mem_range.mp hj⟩
      rw [L0f]
      exact mid_start (fun c hc => (L0a c).2.2 (by rw [← L0l]; exact hc)) fun c => (L0a c).1
    have sum0 : (firstM sizes fx).sum ≤ 1600 := by
      have h := sum_le16 (Ms := firstM sizes fx) fun m hm => by
        obtain ⟨c, hc⟩ := List.mem_iff_getElem?.mp hm
        have := m16 _ S0.mid.sub c
        rw [List.getD_eq_getElem?_getD, hc] at this
        exact this
      rw [firstM_len] at h
      omega
    have mul0 : (firstM sizes fx).sum * sums.length ≤ 160000 := by
      have := Nat.mul_le_mul sum0 s100
      omega
    refine ⟨fun k σ H' => ∃ Ms q n y3, k = Ms.sum * sums.length + q.length ∧ σ = [some v, some u, some z, some y3] ∧ y3 = .ref s ∧ Same Hb H' ∧ PM H' st tr qu Ms q n ∧ SInv (let0 sizes fx) sums Ms q ∧ n + Ms.sum ≤ 1600 ∧ Ms.sum * sums.length + q.length ≤ 160100 ∧ Ms.length = sizes.length,
      ⟨_, _, _, 0, _, rfl, rfl, rfl, e2, pm, S0, by omega, by rw [List.length_range]; omega, firstM_len _ _⟩, fun k σ H3 hW => ?_⟩
    obtain ⟨Ms, qs, n, _, rfl, rfl, rfl, e3, pm3, hS, b1, b2, hl⟩ := hW
    refine ⟨_, rfl, s, _, rfl, dg (e3 _ _ g1) g6, Nat.zero_le _, fun p np => ne_nil isD_N (by decide) (sl_of (by rw [upd_ne (ne_of_none pm3.q np)]; exact pm3.q)) (nats_pd qs) (sl_of upd_same) ⟨_, rfl, ?_⟩⟩
    have e4 : Same H3 (upd H3 p (.lst [])) := sm_new np
    have pm4 : PM (upd H3 p (.lst [])) st tr qu Ms qs n := ⟨e4 _ _ pm3.s, by obtain ⟨ts, z1, z2⟩ := pm3.t; exact ⟨ts, e4 _ _ z1, z2⟩, e4 _ _ pm3.q⟩
    have e34 := e3.trans e4
    generalize upd H3 p (.lst []) = H4 at e4 pm4 e34
    rcases List.eq_nil_or_concat qs with z | ⟨q', j, z⟩
    · subst z
      -- nothing is left to look at
      refine iteF ?_
      refine ⟨_, rfl, s, _, rfl, dg (e34 _ _ g1) g4, st, Ms, rfl, sl_of pm4.s, by omega, fun m hm => ?_, fun v H5 e5 r => ?_⟩
      · obtain ⟨c, hc⟩ := List.mem_iff_getElem?.mp hm
        have := m16 _ hS.mid.sub c
        rw [List.getD_eq_getElem?_getD, hc] at this
        exact Nat.lt_of_lt_of_le this (by decide)
      · exact q (some (famM Ms)) v H5 (eHb.trans (e34.trans e5)) (look_end hS) r
    · rw [List.concat_eq_append] at z
      subst z
      have ne : (!(q' ++ [j]).isEmpty) = true := by
        cases q' <;> rfl
      rw [ne]
      have jlt : j < sums.length := hS.qlt j (List.mem_append_right _ List.mem_cons_self)
      obtain ⟨sm, hsm⟩ : ∃ sm, sums[j]? = some sm := ⟨_, List.getElem?_eq_getElem jlt⟩
      have hmem := List.mem_of_getElem? hsm
      have so := smok sm hmem
      have ql : (q' ++ [j]).length = q'.length + 1 := by rw [List.length_append]; rfl
      refine iteT ⟨fun σ' H' => ∃ m', m' < Ms.sum * sums.length + (q' ++ [j]).length ∧ ∃ Ms q n y3, m' = Ms.sum * sums.length + q.length ∧ σ' = [some v, some u, some z, some y3] ∧ y3 = .ref s ∧ Same Hb H' ∧ PM H' st tr qu Ms q n ∧ SInv (let0 sizes fx) sums Ms q ∧ n + Ms.sum ≤ 1600 ∧ Ms.sum * sums.length + q.length ≤ 160100 ∧ Ms.length = sizes.length, fun σ' H' h => h, ?_⟩
      have hlast : (nV (q' ++ [j]))[(nV (q' ++ [j])).length - 1]? = some (.int (j : Int)) := by
        refine at_nV ?_
        rw [nV_len, ql]
        simp
      have hdrop : (nV (q' ++ [j])).dropLast = nV q' := by
        rw [← nV_snoc]
        simp
      refine ⟨_, rfl, _, rfl, s, _, rfl, dg (e34 _ _ g1) g6, .inl ⟨rfl, _, sl_of pm4.q⟩, qu, _, _, rfl, rfl, pm4.q, hlast, ?_⟩
      rw [hdrop]
      have e5 : Same Hb (upd H4 qu (.lst (nV q'))) := sm_mut e34 n3
      have pm5 : PM (upd H4 qu (.lst (nV q'))) st tr qu Ms q' n := ⟨by rw [upd_ne d13]; exact pm4.s, by obtain ⟨ts, z1, z2⟩ := pm4.t; exact ⟨ts, by rw [upd_ne d23]; exact z1, z2⟩, upd_same⟩
      generalize upd H4 qu (.lst (nV q')) = H5 at e5 pm5
      refine ⟨s, j, Hb, st, tr, qu, sums, _, Ms, q', n, sums.length, sm, rfl, e5, pc0, pm5, hsm, lkOk Ms _ sm hS hmem, ?_, hIdx.le, by omega, by omega, by omega, fun hbr H6 e6 => ?_, fun hb H6 e6 pm6 => ?_⟩
      · rw [hl]
        unfold idxOf
        rw [List.length_map, List.length_range]
      · refine ⟨_, rfl, iteT ?_⟩
        exact q none .non H6 (eHb.trans e6) (look_broken hsm so hS hbr) rfl
      · refine ⟨_, rfl, iteF ?_⟩
        obtain ⟨k1, k2, k3, k4⟩ := look_ok (n := n) hIdx hsm so (fun c => (L0a c).2.1) hS hb
        exact ⟨_, k2, _, _, _, _, rfl, rfl, rfl, e6, pm6, k1, by omega, by omega, by omega⟩
end
end K36
end
section

set_option Elab.async false
set_option linter.all false
set_option maxRecDepth 100000
set_option maxHeartbeats 4000000
/-! The law's drawing of numbers: which numbers does not matter. -/
namespace K36
open PySem PySem.Spec PyProof.Rows L2
abbrev s__law_mixed : Stmt := topS 33
abbrev N__law_mixed : List Str := ["_law_cell", "_law_k"]
theorem sc__law_mixed : FnScope N__law_mixed ["_law_cell", "_law_k"] (defScope s__law_mixed) := ⟨rfl, rfl, rfl, by decide +kernel, rfl, by decide +kernel, by decide +kernel⟩
abbrev s__law_begin : Stmt := topS 34
abbrev N__law_begin : List Str := ["_law_script", "_law_cells_so", "_law_cell"]
theorem sc__law_begin : FnScope N__law_begin ["_law_script"] (defScope s__law_begin) := ⟨rfl, rfl, rfl, by decide +kernel, rfl, by decide +kernel, by decide +kernel⟩
abbrev s__law_draw : Stmt := topS 35
abbrev N__law_draw : List Str := ["_law_state", "_law_limit", "_law_at", "_law_place", "_law_left_here", "_law_number"]
theorem sc__law_draw : FnScope N__law_draw ["_law_state", "_law_limit"] (defScope s__law_draw) := ⟨rfl, rfl, rfl, by decide +kernel, rfl, by decide +kernel, by decide +kernel⟩
/-! ### the state of the draws -/
def lawKv (lc ll : Addr) (n : Int) : List (Key × V) := [(.inr "cells", .ref lc), (.inr "lefts", .ref ll), (.inr "at", .int n)]
theorem lawKv_nd (lc ll : Addr) (n : Int) : ((lawKv lc ll n).map (·.1)).Nodup := by
  show ([(.inr "cells" : Key), .inr "lefts", .inr "at"]).Nodup
  decide +kernel
theorem lawKv_cells (lc ll : Addr) (n : Int) : valV (lawKv lc ll n) (.inr "cells") = some (.ref lc) := valV_of (lawKv_nd _ _ _) (by unfold lawKv; simp)
theorem lawKv_lefts (lc ll : Addr) (n : Int) : valV (lawKv lc ll n) (.inr "lefts") = some (.ref ll) := valV_of (lawKv_nd _ _ _) (by unfold lawKv; simp)
theorem lawKv_at (lc ll : Addr) (n : Int) : valV (lawKv lc ll n) (.inr "at") = some (.int n) := valV_of (lawKv_nd _ _ _) (by unfold lawKv; simp)
theorem lawKv_put (lc ll : Addr) (n m : Int) : putK (lawKv lc ll n) (.inr "at") (.int m) = lawKv lc ll m := by
  have h1 : (.inr "cells" : Key) ≠ .inr "at" := by decide +kernel
  have h2 : (.inr "lefts" : Key) ≠ .inr "at" := by decide +kernel
  unfold putK lawKv
  rw [if_pos]
  · simp [h1, h2]
  · simp
structure Ld (s ll lc : Addr) (n : Nat) (H : Hp) : Prop where
  ne : s ≠ ll
  n1 : lc ≠ s
  n2 : lc ≠ ll
  d : ∃ a : Nat, a ≤ n ∧ H s = some (.dK (lawKv lc ll (a : Int)))
  c : ∃ xs ys : List Int, H lc = some (.lst (xs.map V.int)) ∧ H ll = some (.lst (ys.map V.int)) ∧ ys.length = xs.length ∧ 0 < xs.length
/-- all but the two stays -/
def Fr (s ll : Addr) (H H' : Hp) : Prop := ∀ x o, x ≠ s → x ≠ ll → H x = some o → H' x = some o
theorem Fr.refl (s ll : Addr) (H : Hp) : Fr s ll H H := fun _ _ _ _ h => h
theorem Fr.trans {s ll : Addr} {H H1 H2 : Hp} (a : Fr s ll H H1) (b : Fr s ll H1 H2) : Fr s ll H H2 := fun x o h1 h2 h => b x o h1 h2 (a x o h1 h2 h)
theorem fr_of {s ll : Addr} {H H' : Hp} (e : Same H H') : Fr s ll H H' := fun x o _ _ h => e x o h
theorem Ld.same {s ll lc : Addr} {n : Nat} {H H' : Hp} (h : Ld s ll lc n H) (e : Same H H') : Ld s ll lc n H' := by
  obtain ⟨a, ha, hd⟩ := h.d
  obtain ⟨xs, ys, h1, h2, h3, h4⟩ := h.c
  exact ⟨h.ne, h.n1, h.n2, ⟨a, ha, e _ _ hd⟩, xs, ys, e _ _ h1, e _ _ h2, h3, h4⟩
theorem Ld.mono {s ll lc : Addr} {n m : Nat} {H : Hp} (h : Ld s ll lc n H) (e : n ≤ m) : Ld s ll lc m H := by
  obtain ⟨a, ha, hd⟩ := h.d
  exact ⟨h.ne, h.n1, h.n2, ⟨a, Nat.le_trans ha e, hd⟩, h.c⟩
theorem Ld.ne_tup {s ll lc : Addr} {n : Nat} {H : Hp} (h : Ld s ll lc n H) {a : Addr} {xs : List V} (r : Rd H a (.tup xs)) : a ≠ s ∧ a ≠ ll := by
  obtain ⟨b, _, hd⟩ := h.d
  obtain ⟨ws, ys, _, h2, _⟩ := h.c
  constructor
  · intro z
    subst z
    rcases r with r | ⟨o, r⟩
    · rw [hd] at r; cases r
    · rw [hd] at r; cases r
  · intro z
    subst z
    rcases r with r | ⟨o, r⟩
    · rw [h2] at r; cases r
    · rw [h2] at r; cases r
theorem Ld.tk {s ll lc : Addr} {n : Nat} {H H' : Hp} (h : Ld s ll lc n H) (e : Fr s ll H H') : Tk H H' := fun a xs r => by
  obtain ⟨h1, h2⟩ := h.ne_tup r
  rcases r with r | ⟨o, r⟩
  · exact .inl (e _ _ h1 h2 r)
  · exact .inr ⟨o, e _ _ h1 h2 r⟩
/-- a thing made after the state stands apart -/
theorem Ld.new {s ll lc : Addr} {n : Nat} {H : Hp} (h : Ld s ll lc n H) {p : Addr} (np : H p = none) : p ≠ s ∧ p ≠ ll ∧ p ≠ lc := by
  obtain ⟨b, _, hd⟩ := h.d
  obtain ⟨ws, ys, h1, h2, _⟩ := h.c
  exact ⟨fun z => (by rw [z, hd] at np; cases np), fun z => (by rw [z, h2] at np; cases np), fun z => (by rw [z, h1] at np; cases np)⟩
theorem Ld.upd {s ll lc : Addr} {n : Nat} {H : Hp} (h : Ld s ll lc n H) {p : Addr} {o : HO} (h1 : p ≠ s) (h2 : p ≠ ll) (h3 : p ≠ lc) : Ld s ll lc n (upd H p o) := by
  obtain ⟨a, ha, hd⟩ := h.d
  obtain ⟨xs, ys, g1, g2, g3, g4⟩ := h.c
  exact ⟨h.ne, h.n1, h.n2, ⟨a, ha, by rw [upd_ne h1.symm]; exact hd⟩, xs, ys, by rw [upd_ne h3.symm]; exact g1, by rw [upd_ne h2.symm]; exact g2, g3, g4⟩
section
variable {P : Program} {w : World} {K : PySem.W.Frag} {mg : Str → Option Value} {base : Heap}
def sp_mixed : Sp := fun vs H Q _ => ∃ c k : Int, vs = [.int c, .int k] ∧ 0 ≤ k ∧ k ≤ 1000000000 ∧ ∀ r : Int, Q (.int r) H
theorem ok__law_mixed {f : Addr} {fd : FuncData} (F : Fun K "_law_mixed" "_law_mixed" s__law_mixed f fd) (B : BI mg) : FnOk P w K mg base CX0 1 f fd ["_law_cell", "_law_k"] sp_mixed := by
  refine F.ok sc__law_mixed (fun vs H Q E h => ?_) (fun cdv A outer s H vs Q E hr h => ?_)
  · obtain ⟨c, k, rfl, _⟩ := h
    rfl
  · obtain ⟨c, k, rfl, hk0, hk1, q⟩ := h
    refine ⟨_, (pss_cons (ps_set (i := 0) sc__law_mixed.nd rfl (Or.inl rfl) (pe_op op_mod (pe_callTy call_int1 (by rfl) B.int (by decide +kernel) (pa_cons (pv 0) pa_nil)) pe_int))
      (pss_one (ps_ret (pe_op op_mod (pe_op op_mul (pe_op op_mod (pe_op op_add (pe_op op_add (pe_op op_mul (pv 0) (pe_op op_add pe_int (pe_op op_mul (pe_op op_mul pe_int (pv 1)) (pv 1)))) (pe_op op_mul pe_int (pv 1))) pe_int) pe_int) pe_int) pe_int)))), ?_⟩
    have c2 : CMul 2 k := .inl ⟨by decide, by decide⟩
    have ck : CMul (2 * k) k := .inr ⟨by omega, by omega⟩
    have cm : ∀ x : Int, CMul (c % 2147483647) x := fun x => by
      have h1 := Int.emod_nonneg c (b := 2147483647) (by decide)
      have h2 := Int.emod_lt_of_pos c (b := 2147483647) (by decide)
      exact .inl ⟨by omega, by omega⟩
    refine ⟨_, rfl, .inl ⟨c, rfl, c, 2147483647, rfl, rfl, (by decide : (0 : Int) < 2147483647), ?_⟩⟩
    refine ⟨_, rfl, _, rfl, 2, k, rfl, rfl, c2, _, rfl, _, _, rfl, rfl, ck, _, _, rfl, rfl, _, _, rfl, rfl, cm _, _, rfl, _, _, rfl, rfl, .inl ⟨by decide, by decide⟩, _, _, rfl, rfl, _, _, rfl, rfl, _, _, rfl, rfl, (by decide : (0 : Int) < 2147483647), _, _, rfl, rfl, .inr ⟨by decide, by decide⟩, _, _, rfl, rfl, (by decide : (0 : Int) < 2147483629), q _⟩
def sp_begin (K : PySem.W.Frag) : Sp := fun vs H Q _ => ∃ (a : Addr) (ns : List Int), vs = [.ref a] ∧ SqL K H a (ns.map V.int) ∧ ns.length ≤ 100000 ∧ ∀ (s ll lc : Addr) H', Ld s ll lc 0 H' → Q (.ref s) H'
theorem ok__law_begin {f : Addr} {fd : FuncData} (F : Fun K "_law_begin" "_law_begin" s__law_begin f fd) (B : BI mg) : FnOk P w K mg base CX0 1 f fd ["_law_script"] (sp_begin K) := by
  refine F.ok sc__law_begin (fun vs H Q E h => ?_) (fun cdv A outer s H vs Q E hr h => ?_)
  · obtain ⟨a, ns, rfl, _⟩ := h
    rfl
  · obtain ⟨a, ns, rfl, hL, hz, q⟩ := h
    refine ⟨_, (pss_cons (ps_set (i := 1) sc__law_begin.nd rfl (Or.inl rfl) (pe_ifExp (pt_cmpR (opNe K hr.units) (pv 0) (pe_lst pa_nil) (nomark _)) (pe_callTy call_list_of (by rfl) B.list (by decide +kernel) (pa_cons (pv 0) pa_nil)) (pe_lst (pa_cons pe_int pa_nil))))
      (pss_one (ps_ret (pe_disp (pps_cons pe_str (pv 1) (pps_cons pe_str (pe_lc (own := [("_law_cell", 2)]) (g := gName 2) (tt := tYes) rfl sc__law_begin.nd (piL K (pv 1)) (blkOk_by (own := [("_law_cell", 2)]) (N := N__law_begin) (sc := (defScope s__law_begin)) (by decide +kernel)) (fun _ _ _ _ _ => (pg_name (i := 2) sc__law_begin.nd rfl (Or.inl rfl))) (fun _ _ _ _ _ => pts_nil) (fun _ _ _ _ _ => (pe_ifExp (pt_cmpR op_ge (pv 2) (pe_op op_pow pe_int pe_int) (nomark _)) (pv 2) pe_int))) (pps_cons pe_str pe_int pps_nil))) (by rfl) (by rfl) (fun z => by cases z) (by decide))))), ?_⟩
    have main : ∀ (lc : Addr) (xs : List Int) (H1 : Hp) (x1 : V), x1 = .ref lc → H1 lc = some (.lst (xs.map V.int)) → 0 < xs.length → xs.length ≤ 100000 →
        (tRet (tDisp [(tC (V.str "cells"), tVar 1), (tC (V.str "lefts"), tLc (iList K (tVar 1)) (gName 2) tYes (tIf (tTest (tOp (rI0 fun i j => V.bl (decide (j ≤ i))) (tVar 2) (tOp (L2.rI CPow fun i j => V.int (i ^ j.toNat)) (tC (V.int 10)) (tC (V.int 18))))) (tVar 2) (tC (V.int 0))) [2]), (tC (V.str "at"), tC (V.int 0))]))
          { nx := fun x H' => Q V.non H', rt := Q } [some (.ref a), some x1, none] H1 := by
      intro lc xs H1 x1 e1 hlc h0 hx
      subst e1
      refine fun p np => ⟨_, rfl, _, rfl, lc, rfl, ⟨_, sl_of (by rw [upd_ne (ne_of_none hlc np)]; exact hlc)⟩, fun D nD => ?_⟩
      have e2 : Same H1 (upd H1 p (.dK [])) := sm_new np
      have hp2 : (upd H1 p (.dK [])) p = some (.dK []) := upd_same
      have hlc2 := e2 _ _ hlc
      generalize upd H1 p (.dK []) = H2 at nD e2 hp2 hlc2
      refine lc_pure walk_list rI xs (List.length_map ..).symm (fun _ => true) (fun x => if 10 ^ 18 ≤ x then x else 0) nD (by rw [List.length_map]; exact hx) (fun H3 e => (sl_of (e _ _ hlc2))) (fun i z x H3 H4 Cy Cn hz e hy cy cn => ?_) yat_same fun H3 us' e hl hp' => ?_
      · obtain ⟨rfl, hx⟩ := hy
        rw [List.getElem?_map, hz] at hx
        have ex : x = .int z := (Option.some.inj hx).symm
        subst ex
        refine ⟨rfl, _, rfl, 10, 18, rfl, rfl, ⟨by decide, by decide, by decide⟩, z, _, rfl, rfl, _, rfl, ?_⟩
        by_cases hc : (10 : Int) ^ 18 ≤ z
        · exact iteD hc ⟨_, rfl, cy _ _ (Same.refl _) (by show V.int z = V.int (if (10 : Int) ^ 18 ≤ z then z else 0); rw [if_pos hc]) rfl⟩
        · exact iteN hc (cy _ _ (Same.refl _) (by show V.int 0 = V.int (if (10 : Int) ^ 18 ≤ z then z else 0); rw [if_neg hc]) rfl)
      · rw [List.filter_eq_self.mpr (fun _ _ => rfl)] at hp'
        have eu := pd_ints hp'
        subst eu
        have pD : p ≠ D := ne_of_none hp2 nD
        have lcp : lc ≠ p := ne_of_none hlc np
        have lcD : lc ≠ D := ne_of_none hlc2 nD
        refine ⟨e _ _ hp2, lawKv lc D 0, rfl, Nat.le_of_ble_eq_true rfl, ?_⟩
        have em : mergeK [] (lawKv lc D 0) = lawKv lc D 0 := mergeK_id (lawKv lc D 0) [] (lawKv_nd lc D 0)
        rw [em]
        exact q p D lc _ ⟨pD, lcp, lcD, ⟨0, Nat.le_refl _, upd_same⟩, xs, _, by rw [upd_ne lcp]; exact e _ _ hlc2, by rw [upd_ne pD.symm]; exact hl, List.length_map .., h0⟩
    refine ⟨_, rfl, Nat.zero_le _, fun p np => ne_nil isD_I (by decide) (Same.seq (sm_new np) hL) (ints_pd ns) (sl_of upd_same) ⟨_, rfl, ?_⟩⟩
    cases ns with
    | nil =>
      refine iteF ⟨sz (by decide), fun l nl => ?_⟩
      exact main l [0] _ _ rfl upd_same (by decide) (by decide)
    | cons n ns =>
      refine iteT ⟨_, rfl, a, _, rfl, .inl (Same.seq (sm_new np) hL), fun l nl => ?_⟩
      exact main l (n :: ns) _ _ rfl upd_same (by rw [List.length_cons]; omega) hz
def sp_draw : Sp := fun vs H Q _ => ∃ (s ll lc : Addr) (n L : Nat), vs = [.ref s, .int (L : Int)] ∧ Ld s ll lc n H ∧ n ≤ 1000000 ∧ 0 < L ∧ L ≤ 1000000 ∧ ∀ (r : Nat) H', r < L → Fr s ll H H' → Ld s ll lc (n + 1) H' → Q (.int (r : Int)) H'
theorem ok__law_draw {f : Addr} {fd : FuncData} (F : Fun K "_law_draw" "_law_draw" s__law_draw f fd) (B : BI mg) (D__law_mixed : Dk P w K mg base 1 "_law_mixed" ["_law_cell", "_law_k"] sp_mixed) : FnOk P w K mg base CX0 2 f fd ["_law_state", "_law_limit"] sp_draw := by
  refine F.ok sc__law_draw (fun vs H Q E h => ?_) (fun cdv A outer sh H vs Q E hr h => ?_)
  · obtain ⟨s, ll, lc, n, L, rfl, _⟩ := h
    rfl
  · obtain ⟨s, ll, lc, n, L, rfl, ld, hn, hL0, hL1, q⟩ := h
    obtain ⟨a, ha, hd⟩ := ld.d
    obtain ⟨xs, ys, h1, h2, h3, h4⟩ := ld.c
    refine ⟨_, (pss_cons (ps_set (i := 2) sc__law_draw.nd rfl (Or.inl rfl) (pe_dget (hu_of hr) (pv 0) pe_str (fun _ _ => rfl)))
      (pss_cons (ps_dput (hu_of hr) (pv 0) pe_str (pe_op op_add (pv 2) pe_int) rfl)
      (pss_cons (ps_set (i := 3) sc__law_draw.nd rfl (Or.inl rfl) (pe_op op_mod (pe_callTy call_int1 (by rfl) B.int (by decide +kernel) (pa_cons (pv 2) pa_nil)) (pe_callB call_len_seq (by rfl) B.len (by decide +kernel) (pa_cons (pe_dget (hu_of hr) (pv 0) pe_str (fun _ _ => rfl)) pa_nil))))
      (pss_cons (ps_set (i := 4) sc__law_draw.nd rfl (Or.inl rfl) (pe_ix (ixL K) (pe_dget (hu_of hr) (pv 0) pe_str (fun _ _ => rfl)) (pv 3) (fun _ _ => rfl)))
      (pss_cons (ps_if (pt_cmpR op_gt (pv 4) pe_int (nomark _)) (pss_cons (ps_asg (pe_op op_fdiv (pv 4) (pv 1)) (pg_sub (pe_dget (hu_of hr) (pv 0) pe_str (fun _ _ => rfl)) (pv 3) set_list))
      (pss_one (ps_ret (pe_op op_mod (pe_callTy call_int1 (by rfl) B.int (by decide +kernel) (pa_cons (pv 4) pa_nil)) (pv 1))))) pss_nil)
      (pss_cons (ps_set (i := 5) sc__law_draw.nd rfl (Or.inl rfl) (pe_callD D__law_mixed hr (pa_cons (pe_callD D__law_mixed hr (pa_cons (pe_ix (ixL K) (pe_dget (hu_of hr) (pv 0) pe_str (fun _ _ => rfl)) (pv 3) (fun _ _ => rfl)) (pa_cons (pv 2) pa_nil))) (pa_cons (pe_op op_add pe_int (pv 2)) pa_nil))))
      (pss_one (ps_ret (pe_op op_mod (pe_op op_fdiv (pe_callTy call_int1 (by rfl) B.int (by decide +kernel) (pa_cons (pe_op op_add (pe_op op_mul (pv 5) pe_int) (pe_callD D__law_mixed hr (pa_cons (pv 5) (pa_cons (pe_op op_add pe_int (pv 2)) pa_nil)))) pa_nil)) pe_int) (pv 1)))))))))), ?_⟩
    refine ⟨_, rfl, s, _, rfl, dg hd (lawKv_at _ _ _), ?_⟩
    refine ⟨_, rfl, (a : Int), 1, rfl, rfl, _, rfl, s, _, rfl, DPut.k (k := .inr "at") hd (szl (by show (3 : Nat) < 1000000; decide)), ?_⟩
    rw [lawKv_put]
    have g1 : (upd H s (.dK (lawKv lc ll ((a : Int) + 1)))) s = some (.dK (lawKv lc ll ((a : Int) + 1))) := upd_same
    have g2 : (upd H s (.dK (lawKv lc ll ((a : Int) + 1)))) lc = some (.lst (xs.map V.int)) := by rw [upd_ne ld.n1]; exact h1
    have g3 : (upd H s (.dK (lawKv lc ll ((a : Int) + 1)))) ll = some (.lst (ys.map V.int)) := by rw [upd_ne ld.ne.symm]; exact h2
    have fr1 : Fr s ll H (upd H s (.dK (lawKv lc ll ((a : Int) + 1)))) := fun x o e1 e2 e => by rw [upd_ne e1]; exact e
    generalize upd H s (.dK (lawKv lc ll ((a : Int) + 1))) = H1 at g1 g2 g3 fr1
    have ea : (a : Int) + 1 = ((a + 1 : Nat) : Int) := by omega
    have ld1 : Ld s ll lc (n + 1) H1 := ⟨ld.ne, ld.n1, ld.n2, ⟨a + 1, by omega, by rw [g1, ea]⟩, xs, ys, g2, g3, h3, h4⟩
    refine ⟨_, rfl, .inl ⟨(a : Int), rfl, _, rfl, s, _, rfl, dg g1 (lawKv_cells _ _ _), lc, _, rfl, .inl (sl_of g2), (a : Int), _, rfl, rfl, ?_, ?_⟩⟩
    · show (0 : Int) < (((xs.map V.int).length : Nat) : Int)
      rw [List.length_map]
      omega
    · have hmod : (a : Int) % (((xs.map V.int).length : Nat) : Int) = ((a % xs.length : Nat) : Int) := by rw [List.length_map]; exact (Int.natCast_emod a xs.length).symm
      dsimp only
      rw [hmod]
      have plt := Nat.mod_lt a h4
      generalize a % xs.length = pl at plt
      obtain ⟨y, hy⟩ : ∃ y, ys[pl]? = some y := ⟨_, List.getElem?_eq_getElem (by omega)⟩
      obtain ⟨x, hx⟩ : ∃ x, xs[pl]? = some x := ⟨_, List.getElem?_eq_getElem plt⟩
      refine ⟨_, rfl, s, _, rfl, dg g1 (lawKv_lefts _ _ _), _, rfl, ll, _, (pl : Int), .int y, rfl, rfl, sl_of g3, atI_nat (by rw [List.getElem?_map, hy]; rfl), ?_⟩
      refine ⟨_, rfl, y, 0, rfl, rfl, _, rfl, iteB (fun _ => ?_) fun _ => ?_⟩
      · have cd : CDiv y (L : Int) := ⟨by omega, by omega⟩
        refine ⟨_, rfl, _, rfl, y, (L : Int), rfl, rfl, cd, _, rfl, s, _, rfl, dg g1 (lawKv_lefts _ _ _), _, rfl, ll, _, (pl : Int), pl, rfl, rfl, g3, ixN_nat (by rw [List.length_map]; omega), ?_⟩
        refine ⟨_, rfl, .inl ⟨y, rfl, _, rfl, y, (L : Int), rfl, rfl, (by omega : (0 : Int) < (L : Int)), ?_⟩⟩
        have m0 := Int.emod_nonneg y (b := (L : Int)) (by omega)
        have m1 := Int.emod_lt_of_pos y (b := (L : Int)) (by omega)
        have er : y % (L : Int) = ((y % (L : Int)).toNat : Int) := (Int.toNat_of_nonneg m0).symm
        dsimp only
        rw [er]
        refine q _ _ (by omega) (fun x o e1 e2 e => by rw [upd_ne e2]; exact fr1 x o e1 e2 e) ⟨ld.ne, ld.n1, ld.n2, ⟨a + 1, by omega, by rw [upd_ne ld.ne, g1, ea]⟩, xs, ys.set pl (y / (L : Int)), by rw [upd_ne ld.n2]; exact g2, ?_, by rw [List.length_set]; exact h3, h4⟩
        rw [upd_same, List.map_set]
      · refine ⟨_, rfl, s, _, rfl, dg g1 (lawKv_cells _ _ _), _, rfl, lc, _, (pl : Int), .int x, rfl, rfl, sl_of g2, atI_nat (by rw [List.getElem?_map, hx]; rfl), _, rfl, x, (a : Int), rfl, by omega, by omega, fun r1 => ?_⟩
        refine ⟨_, rfl, 40, (a : Int), rfl, rfl, r1, 40 + (a : Int), rfl, by omega, by omega, fun r2 => ?_⟩
        refine ⟨_, rfl, r2, 2147483647, rfl, rfl, .inr ⟨by decide, by decide⟩, _, rfl, _, rfl, 7, (a : Int), rfl, rfl, r2, 7 + (a : Int), rfl, by omega, by omega, fun r3 => ⟨_, _, rfl, rfl, .inl ⟨_, rfl, _, 64, rfl, rfl, ⟨by decide, by decide⟩, _, rfl, _, (L : Int), rfl, rfl, (by omega : (0 : Int) < (L : Int)), ?_⟩⟩⟩
        dsimp only
        generalize (r2 * 2147483647 + r3) / 64 = y
        have m0 := Int.emod_nonneg y (b := (L : Int)) (by omega)
        have m1 := Int.emod_lt_of_pos y (b := (L : Int)) (by omega)
        have er : y % (L : Int) = ((y % (L : Int)).toNat : Int) := (Int.toNat_of_nonneg m0).symm
        rw [er]
        exact q _ _ (by omega) fr1 ld1
end
end K36
end
section

set_option Elab.async false
set_option linter.all false
set_option maxRecDepth 100000
set_option maxHeartbeats 4000000
/-! The law's problems: lots, sums, what is fixed. -/
namespace K36
open PySem PySem.Spec PyProof.Rows L2
abbrev s__law_form : Stmt := topS 36
abbrev N__law_form : List Str := ["_law_terms_so", "_law_bound_so", "_law_found", "_law_left_here", "_law_choice_so", "_law_weights_so", "_law_least", "_law_worth"]
theorem sc__law_form : FnScope N__law_form ["_law_terms_so", "_law_bound_so"] (defScope s__law_form) := ⟨rfl, rfl, rfl, by decide +kernel, rfl, by decide +kernel, by decide +kernel⟩
abbrev s__law_lots : Stmt := topS 40
abbrev N__law_lots : List Str := ["_law_state", "_law_step"]
theorem sc__law_lots : FnScope N__law_lots ["_law_state"] (defScope s__law_lots) := ⟨rfl, rfl, rfl, by decide +kernel, rfl, by decide +kernel, by decide +kernel⟩
abbrev s__law_sum : Stmt := topS 41
abbrev N__law_sum : List Str := ["_law_state", "_law_lots_here", "_law_terms_so", "_law_choice_so", "_law_size", "_law_least", "_law_wide", "_law_weights_so", "_law_step"]
theorem sc__law_sum : FnScope N__law_sum ["_law_state", "_law_lots_here"] (defScope s__law_sum) := ⟨rfl, rfl, rfl, by decide +kernel, rfl, by decide +kernel, by decide +kernel⟩
theorem szb {n : Nat} (h : Nat.ble n 1000000 = true) : n ≤ sizeLine := sz (Nat.le_of_ble_eq_true h)
/-! ### new tuples -/
section
variable {α β : Type} {K : PySem.W.Frag} {R : Rp α} {S : Rp β} {H : Hp} {p : Addr}
theorem mk_rT [Up R] {us : List V} {xs : List α} (hp : Paired (R H) us xs) (np : H p = none) : rT K R (upd H p (.tup us)) (.ref p) xs := ⟨p, us, rfl, st_of upd_same, up_all (tk_new np) hp⟩
theorem mk_rP [Up R] [Up S] {x y : V} {a : α} {b : β} (h1 : R H x a) (h2 : S H y b) (np : H p = none) : rP K R S (upd H p (.tup [x, y])) (.ref p) (a, b) := ⟨p, x, y, rfl, st_of upd_same, Up.up (tk_new np) h1, Up.up (tk_new np) h2⟩
theorem cat_rT [Up R] {x y : V} {xs ys : List α} {Q : VK} (h1 : rT K R H x xs) (h2 : rT K R H y ys) (hz : xs.length + ys.length ≤ 1000000) (q : ∀ v H', Same H H' → rT K R H' v (xs ++ ys) → Q v H') : rCatA K x y H Q := by
  obtain ⟨a, us, rfl, ha, hp⟩ := h1
  obtain ⟨b, ws, rfl, hb, hp2⟩ := h2
  refine ⟨a, b, us, ws, rfl, rfl, ha, hb, by rw [hp.length, hp2.length]; exact sz hz, fun e => ?_, fun _ e => ?_, fun _ _ p np => ?_⟩
  · subst e
    cases hp
    exact q _ H (Same.refl H) ⟨b, ws, rfl, hb, hp2⟩
  · subst e
    cases hp2
    exact q _ H (Same.refl H) ⟨a, us, rfl, ha, by rw [List.append_nil]; exact hp⟩
  · exact q _ _ (sm_new np) (mk_rT (Paired.snocs hp hp2) np)
end
/-! ### a sum as it is written down -/
def shiftT (p : Nat × List Int) : Nat × List Int := (p.1, p.2.map fun w => w - mn p.2)
def formT (ts : List (Nat × List Int)) : List (Nat × List Int) := (ts.filter fun p => decide (mn p.2 < mx p.2)).map shiftT
theorem formT_asc {ts : List (Nat × List Int)} (h : ascT ts) : ascT (formT ts) := by
  unfold formT ascT
  rw [List.pairwise_map]
  exact (h.sublist List.filter_sublist)
theorem formT_ok {sizes : List Nat} {ts : List (Nat × List Int)} (h : VTerms sizes ts) : VTerms sizes (formT ts) ∧ ∀ p, p ∈ formT ts → (0 : Int) ∈ p.2 ∧ (∀ w, w ∈ p.2 → 0 ≤ w) ∧ ∃ w, w ∈ p.2 ∧ 0 < w := by
  have each : ∀ p, p ∈ formT ts → ∃ r, r ∈ ts ∧ mn r.2 < mx r.2 ∧ p = shiftT r := fun p hp => by
    obtain ⟨r, hr, e⟩ := List.mem_map.mp hp
    obtain ⟨h1, h2⟩ := List.mem_filter.mp hr
    exact ⟨r, h1, of_decide_eq_true h2, e.symm⟩
  refine ⟨⟨?_, formT_asc h.asc, fun p hp => ?_⟩, fun p hp => ?_⟩
  · unfold formT
    rw [List.length_map]
    exact Nat.le_trans (List.length_filter_le _ _) h.few
  · obtain ⟨r, h1, _, rfl⟩ := each p hp
    obtain ⟨a, b⟩ := h.at1 r h1
    exact ⟨a, by show (r.2.map _).length = _; rw [List.length_map]; exact b⟩
  · obtain ⟨r, h1, h2, rfl⟩ := each p hp
    have ne : r.2 ≠ [] := fun z => by rw [z] at h2; simp [mn, mx] at h2
    refine ⟨List.mem_map.mpr ⟨mn r.2, mn_mem ne, by omega⟩, fun w hw => ?_, mx r.2 - mn r.2, List.mem_map.mpr ⟨mx r.2, mx_mem ne, rfl⟩, by omega⟩
    obtain ⟨y, hy, e⟩ := List.mem_map.mp hw
    have := mn_le hy
    omega
theorem formT_snoc {ts : List (Nat × List Int)} {i : Nat} {p : Nat × List Int} (h : ts[i]? = some p) : formT (ts.take (i + 1)) = formT (ts.take i) ++ if mn p.2 < mx p.2 then [shiftT p] else [] := by
  unfold formT
  rw [List.take_add_one, h, List.filter_append, List.map_append]
  show _ ++ ([p].filter _).map shiftT = _
  rw [List.filter_cons, List.filter_nil]
  by_cases c : mn p.2 < mx p.2
  · rw [if_pos (decide_eq_true c), if_pos c]; rfl
  · rw [if_neg (by simpa using c), if_neg c]; rfl
theorem sum_in {lo hi : Int} : ∀ {xs : List Int}, (∀ x, x ∈ xs → lo ≤ x ∧ x ≤ hi) → lo * xs.length ≤ xs.sum ∧ xs.sum ≤ hi * xs.length
  | [], _ => by simp
  | x :: xs, h => by
    obtain ⟨h1, h2⟩ := h x List.mem_cons_self
    obtain ⟨h3, h4⟩ := sum_in (xs := xs) fun y hy => h y (List.mem_cons_of_mem _ hy)
    rw [List.sum_cons, List.length_cons]
    have e : ((xs.length + 1 : Nat) : Int) = (xs.length : Int) + 1 := by omega
    rw [e, Int.mul_add, Int.mul_add, Int.mul_one, Int.mul_one]
    omega
/-! ### comprehensions that draw -/
theorem lc_fr {J : It} {n : Nat} {G : Hp → Prop} {Y : Nat → Hp → V → Hp → Prop} (w : Walk J n G Y) {g : TG} {tt : TT} {te : TE} {vs : List Nat} {σ : L2.St} {H1 : Hp} {D : Addr} {Qd : Hp → Prop} {α : Type} (R : Rp α) [Up R] {s ll lc : Addr} {n0 c : Nat} (Pz : Nat → List α → Prop)
    (p0 : Pz 0 []) (pl : ∀ i zs, Pz i zs → zs.length ≤ i) (hD : H1 D = none) (hz : n ≤ 100000) (ld : Ld s ll lc n0 H1) (hG : ∀ H, G H)
    (hs : ∀ i x H H' zs (Cy : V → Hp → Prop) (Cn : Hp → Prop), i < n → Tk H1 H → Ld s ll lc (n0 + i * c) H → Pz i zs → Y i H x H' →
      (∀ y z H4, Fr s ll H H4 → Ld s ll lc (n0 + (i + 1) * c) H4 → R H4 y z → Pz (i + 1) (zs ++ [z]) → Cy y H4) → (∀ H3, Fr s ll H H3 → Ld s ll lc (n0 + (i + 1) * c) H3 → Pz (i + 1) zs → Cn H3) →
      g x (wipe σ vs) H' fun σ2 H2 => wipe σ2 vs = wipe σ vs ∧ tt σ2 H2 fun b H3 => if b = true then te σ2 H3 Cy else Cn H3)
    (hd : ∀ H us zs, Fr s ll H1 H → Ld s ll lc (n0 + n * c) H → H D = some (.lst us) → Paired (R H) us zs → Pz n zs → Qd H) :
    ∃ W : Nat → Nat → Hp → Prop, (∃ m, W 0 m (upd H1 D (.lst []))) ∧ ∀ i m H, W i m H →
      (J.stop i H ∧ Qd H) ∨ (J.go i H ∧ ∃ Nx : Hp → Prop, (∀ H', Nx H' → ∃ m', m' < m ∧ W (i + 1) m' H') ∧ ∀ x H', J.yld i H x H' → g x (wipe σ vs) H' fun σ2 H2 => wipe σ2 vs = wipe σ vs ∧ tt σ2 H2 fun b H3 =>
        if b = true then te σ2 H3 fun y H4 => ∃ acc, H4 D = some (.lst acc) ∧ acc.length < sizeLine ∧ Nx (upd H4 D (.lst (acc ++ [y]))) else Nx H3) := by
  obtain ⟨d1, d2, d3⟩ := ld.new hD
  have off : ∀ {H o}, Fr s ll H1 H → Fr s ll H1 (upd H D o) := fun e x o h1 h2 h => by rw [upd_ne (ne_of_none h hD)]; exact e x o h1 h2 h
  refine lc_it w (fun i H => Fr s ll H1 H ∧ Ld s ll lc (n0 + i * c) H ∧ ∃ us zs, H D = some (.lst us) ∧ Paired (R H) us zs ∧ Pz i zs) ⟨off (Fr.refl s ll H1), by rw [Nat.zero_mul]; exact ld.upd d1 d2 d3, [], [], upd_same, .nil, p0⟩ (fun i H _ h => hG H) (fun i x H H' hi hP hy => ?_) (fun H hP => ?_)
  · obtain ⟨e, l, us, zs, hl, hp, hpz⟩ := hP
    have lu : us.length ≤ i := by rw [hp.length]; exact pl i zs hpz
    refine hs i x H H' zs _ _ hi (ld.tk e) l hpz hy (fun y z H4 e4 l4 r pz => ?_) fun H3 e3 l3 pz => ?_
    · have k5 : Tk H4 (upd H4 D (.lst (us ++ [y]))) := tk_lst (e4 _ _ d1 d2 hl)
      exact ⟨us, e4 _ _ d1 d2 hl, szl (by omega), off (e.trans e4), l4.upd d1 d2 d3, us ++ [y], zs ++ [z], upd_same, Paired.snocs (up_all k5 (up_all (l.tk e4) hp)) (.cons (Up.up k5 r) .nil), pz⟩
    · exact ⟨e.trans e3, l3, us, zs, e3 _ _ d1 d2 hl, up_all (l.tk e3) hp, pz⟩
  · obtain ⟨e, l, us, zs, hl, hp, hpz⟩ := hP
    exact hd H us zs e l hl hp hpz
/-- lots -/
structure LOk (sizes : List Nat) : Prop where
  one : 1 ≤ sizes.length
  few : sizes.length ≤ 4
  all : ∀ z, z ∈ sizes → 1 ≤ z ∧ z ≤ 4
theorem LOk.vz {sizes : List Nat} (h : LOk sizes) : VSizes sizes := ⟨by have := h.few; omega, fun z hz => by have := h.all z hz; omega⟩
section
variable {P : Program} {w : World} {K : PySem.W.Frag} {mg : Str → Option Value} {base : Heap}
def sp_form (K : PySem.W.Frag) : Sp := fun vs H Q _ => ∃ (a : Addr) (us : List V) (ts : List (Nat × List Int)) (b : Int) (sizes : List Nat), vs = [.ref a, .int b] ∧ SqL K H a us ∧ Paired (rP K rN (rT K rI) H) us ts ∧ VTerms sizes ts ∧ (∀ p, p ∈ ts → p.2 ≠ [] ∧ p.2.length ≤ 1000) ∧ ∀ v H' sm, Same H H' → rSm K H' v sm → VSm sizes sm → Q v H'
theorem ok__law_form {f : Addr} {fd : FuncData} (F : Fun K "_law_form" "_law_form" s__law_form f fd) (B : BI mg) : FnOk P w K mg base CX0 1 f fd ["_law_terms_so", "_law_bound_so"] (sp_form K) := by
  refine F.ok sc__law_form (fun vs H Q E h => ?_) (fun cdv A outer s H vs Q E hr h => ?_)
  · obtain ⟨a, us, ts, b, sizes, rfl, _⟩ := h
    rfl
  · obtain ⟨a, us, ts, b, sizes, rfl, hL, hp, vt, hne, q⟩ := h
    refine ⟨_, (pss_cons (ps_par (i := 2) (j := 3) (by rfl) sc__law_form.nd rfl rfl (by decide) rfl rfl (pa_cons (pe_lst pa_nil) (pa_cons (pv 1) pa_nil)) (by rfl))
      (pss_cons (ps_for PassesOwn.never rfl (piL K (pv 0)) (pgT K rfl (pgs_cons (pg_name (i := 4) sc__law_form.nd rfl (Or.inl rfl)) (pgs_cons (pg_name (i := 5) sc__law_form.nd rfl (Or.inl rfl)) pgs_nil))) (pss_cons (ps_set (i := 6) sc__law_form.nd rfl (Or.inr rfl) (pe_callB (crMn K rfl hr.units) (by rfl) B.min (by decide +kernel) (pa_cons (pv 5) pa_nil)))
      (pss_cons (ps_set (i := 3) sc__law_form.nd rfl (Or.inl rfl) (pe_op op_sub (pv 3) (pv 6)))
      (pss_one (ps_if (pt_cmpR op_gt (pe_callB (crMx K rfl hr.units) (by rfl) B.max (by decide +kernel) (pa_cons (pv 5) pa_nil)) (pv 6) (nomark _)) (pss_one (ps_expr (pe_bm PySem.F.plainAttrs_list PySem.F.slot_list_append PySem.F.type_list_append mt_append (pv 2) (pa_cons (pe_tup (pa_cons (pv 4) (pa_cons (pe_callTy call_tuple_of (by rfl) B.tuple (by decide +kernel) (pa_cons (pe_lc (own := [("_law_worth", 7)]) (g := gName 7) (tt := tYes) rfl sc__law_form.nd (piT K (pv 5)) (blkOk_by (own := [("_law_worth", 7)]) (N := N__law_form) (sc := (defScope s__law_form)) (by decide +kernel)) (fun _ _ _ _ _ => (pg_name (i := 7) sc__law_form.nd rfl (Or.inl rfl))) (fun _ _ _ _ _ => pts_nil) (fun _ _ _ _ _ => (pe_op op_sub (pv 7) (pv 6)))) pa_nil)) pa_nil))) pa_nil)))) pss_nil)))))
      (pss_one (ps_ret (pe_ifExp (pt_cmpR op_le (pv 3) pe_int (nomark _)) (pe_tup (pa_cons (pe_tup pa_nil) (pa_cons pe_int pa_nil))) (pe_tup (pa_cons (pe_callTy call_tuple_of (by rfl) B.tuple (by decide +kernel) (pa_cons (pv 2) pa_nil)) (pa_cons (pv 3) pa_nil)))))))), ?_⟩
    refine ⟨Nat.zero_le _, fun l nl => ⟨_, rfl, _, _, rfl, _, rfl, a, rfl, ⟨us, Same.seq (sm_new nl) hL⟩, ?_⟩⟩
    have nl : H l = none := nl
    have lu := hp.length
    have few := vt.few
    refine for_list (xs := us) (fun i σ H' => Same H H' ∧ ∃ (acc : List V) (lf : Int) (y4 y5 y6 y7 : Option V), H' l = some (.lst acc) ∧ acc.length ≤ i ∧ Paired (rP K rN (rT K rI) H') acc (formT (ts.take i)) ∧ σ = [some (.ref a), some (.int b), some (.ref l), some (.int lf), y4, y5, y6, y7])
      ⟨sm_new nl, [], b, none, none, none, none, upd_same, Nat.le_refl _, by rw [List.take_zero]; exact .nil, rfl⟩ (fun i σ H' _ h => Same.seq h.1 hL) (fun i x σ H1 hx hP => ?_) fun σ H1 hP => ?_
    · obtain ⟨e1, acc, lf, y4, y5, y6, y7, hl, la, ha, rfl⟩ := hP
      obtain ⟨p, hpi, c, x1, x2, rfl, hc, hx1, hx2⟩ := pd_get hp hx
      have hx1 : x1 = .int (p.1 : Nat) := hx1
      subst hx1
      obtain ⟨ne, le⟩ := hne p (List.mem_of_getElem? hpi)
      obtain ⟨d, rfl, hd⟩ := rT_int (Up.up (tk_of e1) hx2)
      have ilt : i < us.length := (List.getElem?_eq_some_iff.mp hx).1
      refine g_pair ((tk_of e1).sq hc) ⟨_, rfl, d, p.2, rfl, .inr hd, ne, _, rfl, _, rfl, lf, mn p.2, rfl, rfl, _, rfl, d, p.2, rfl, .inr hd, ne, _, rfl, mx p.2, mn p.2, rfl, rfl, _, rfl, iteB (fun hb => ?_) fun hb => ?_⟩
      · have hb := of_decide_eq_true hb
        refine ⟨_, rfl, .inl ⟨rfl, _, sl_of hl⟩, _, rfl, _, rfl, d, rfl, ⟨_, hd⟩, fun D nD => ?_⟩
        refine lc_pure walk_tup rI p.2 (List.length_map ..).symm (fun _ => true) (fun z => z - mn p.2) nD (by rw [List.length_map]; omega) (fun H3 e => (tk_of e).sq hd) (fun j z x H3 H4 Cy Cn hz e hy cy cn => ?_) yat_same fun H3 us' e hl' hp' => ?_
        · obtain ⟨rfl, hx⟩ := hy
          rw [List.getElem?_map, hz] at hx
          have ex : x = .int z := (Option.some.inj hx).symm
          subst ex
          exact ⟨rfl, _, rfl, _, rfl, z, mn p.2, rfl, rfl, cy _ _ (Same.refl _) rfl rfl⟩
        · rw [List.filter_eq_self.mpr (fun _ _ => rfl)] at hp'
          refine ⟨D, us', rfl, .inl ⟨sl_of hl', fun t nt => ⟨szb rfl, fun t2 nt2 => ?_⟩⟩⟩
          have r1 : rT K rI (upd H3 t (.tup us')) (.ref t) (p.2.map fun z => z - mn p.2) := mk_rT hp' nt
          have e2 : Same H1 (upd H3 t (.tup us')) := e.trans (sm_new nt)
          generalize upd H3 t (.tup us') = H4 at nt2 r1 e2
          have r2 : rP K rN (rT K rI) (upd H4 t2 (.tup [.int (p.1 : Int), .ref t])) (.ref t2) (shiftT p) := mk_rP (R := rN) (S := rT K rI) rfl r1 nt2
          have e3 : Same H1 (upd H4 t2 (.tup [.int (p.1 : Int), .ref t])) := e2.trans (sm_new nt2)
          generalize upd H4 t2 (.tup [.int (p.1 : Int), .ref t]) = H5 at r2 e3
          have k6 : Tk H5 (upd H5 l (.lst (acc ++ [.ref t2]))) := tk_lst (e3 _ _ hl)
          refine ⟨l, acc, _, rfl, rfl, e3 _ _ hl, szl (by omega), sm_mut (e1.trans e3) nl, acc ++ [.ref t2], lf - mn p.2, _, _, _, _, upd_same, by rw [List.length_append]; show acc.length + 1 ≤ i + 1; omega, ?_, rfl⟩
          rw [formT_snoc hpi, if_pos hb]
          exact Paired.snocs (up_all k6 (up_all (tk_of e3) ha)) (.cons (Up.up k6 r2) .nil)
      · have hb := of_decide_eq_false hb
        refine ⟨e1, acc, lf - mn p.2, _, _, _, _, hl, by omega, ?_, rfl⟩
        rw [formT_snoc hpi, if_neg hb, List.append_nil]
        exact ha
    · obtain ⟨e1, acc, lf, y4, y5, y6, y7, hl, la, ha, rfl⟩ := hP
      rw [lu, List.take_length] at ha
      refine ⟨_, rfl, lf, 0, rfl, rfl, _, rfl, iteB (fun hb => ?_) fun hb => ?_⟩
      · refine ⟨Nat.zero_le _, fun t nt => ⟨szb rfl, fun t2 nt2 => ?_⟩⟩
        have r1 : rTerms K (upd H1 t (.tup [])) (.ref t) [] := mk_rT .nil nt
        exact q _ _ ([], 0) (e1.trans ((sm_new nt).trans (sm_new nt2))) (mk_rP (R := rTerms K) (S := rI) r1 rfl nt2) ⟨⟨Nat.zero_le _, .nil, fun p hp => absurd hp List.not_mem_nil⟩, fun p hp => absurd hp List.not_mem_nil, .inr rfl⟩
      · have hb := of_decide_eq_false hb
        refine ⟨_, rfl, l, acc, rfl, .inl ⟨sl_of hl, fun t nt => ⟨_, rfl, szb rfl, fun t2 nt2 => ?_⟩⟩⟩
        have r1 : rTerms K (upd H1 t (.tup acc)) (.ref t) (formT ts) := mk_rT ha nt
        obtain ⟨f1, f2⟩ := formT_ok vt
        exact q _ _ (formT ts, lf) (e1.trans ((sm_new nt).trans (sm_new nt2))) (mk_rP (R := rTerms K) (S := rI) r1 rfl nt2) ⟨f1, f2, .inl (by show 1 ≤ lf; omega)⟩
def sp_lots (K : PySem.W.Frag) : Sp := fun vs H Q _ => ∃ (s ll lc : Addr) (n : Nat), vs = [.ref s] ∧ Ld s ll lc n H ∧ n ≤ 900000 ∧ ∀ v H' sizes, Fr s ll H H' → Ld s ll lc (n + 5) H' → rT K rN H' v sizes → LOk sizes → Q v H'
theorem ok__law_lots {f : Addr} {fd : FuncData} (F : Fun K "_law_lots" "_law_lots" s__law_lots f fd) (B : BI mg) (D__law_draw : Dk P w K mg base 2 "_law_draw" ["_law_state", "_law_limit"] sp_draw) : FnOk P w K mg base CX0 3 f fd ["_law_state"] (sp_lots K) := by
  refine F.ok sc__law_lots (fun vs H Q E h => ?_) (fun cdv A outer sh H vs Q E hr h => ?_)
  · obtain ⟨s, ll, lc, n, rfl, _⟩ := h
    rfl
  · obtain ⟨s, ll, lc, n, rfl, ld, hn, q⟩ := h
    refine ⟨_, (pss_one (ps_ret (pe_callTy call_tuple_of (by rfl) B.tuple (by decide +kernel) (pa_cons (pe_lc (own := [("_law_step", 1)]) (g := gName 1) (tt := tYes) rfl sc__law_lots.nd (pi_range1 (by rfl) B.range (pa_cons (pe_op op_add pe_int (pe_callD D__law_draw hr (pa_cons (pv 0) (pa_cons pe_int pa_nil)))) pa_nil)) (blkOk_by (own := [("_law_step", 1)]) (N := N__law_lots) (sc := (defScope s__law_lots)) (by decide +kernel)) (fun _ _ _ _ _ => (pg_name (i := 1) sc__law_lots.nd rfl (Or.inl rfl))) (fun _ _ _ _ _ => pts_nil) (fun _ _ _ _ _ => (pe_op op_add pe_int (pe_callD D__law_draw hr (pa_cons (pv 0) (pa_cons pe_int pa_nil)))))) pa_nil)))), ?_⟩
    refine ⟨_, rfl, s, ll, lc, n, 4, rfl, ld, by omega, by decide, by decide, fun r H1 hr1 e1 l1 => ?_⟩
    refine ⟨1, (r : Int), rfl, rfl, _, rfl, by omega, by omega, fun D nD => ?_⟩
    refine lc_fr walk_range rN (c := 1) (fun i zs => zs.length = i ∧ ∀ z, z ∈ zs → 1 ≤ z ∧ z ≤ 4) ⟨rfl, fun z hz => absurd hz List.not_mem_nil⟩ (fun i zs h => by rw [h.1]; exact Nat.le_refl _) nD (by omega) l1 (fun _ => True.intro) (fun i x H2 H3 zs Cy Cn hi kt l2 hpz hy cy cn => ?_) fun H2 us zs e2 l2 hl hp hpz => ?_
    · obtain ⟨rfl, rfl⟩ := hy
      refine ⟨rfl, _, rfl, s, ll, lc, _, 4, rfl, l2, by omega, by decide, by decide, fun r2 H3 hr2 e3 l3 => ⟨1, (r2 : Int), rfl, rfl, ?_⟩⟩
      refine cy _ (1 + r2) _ e3 (l3.mono (by omega)) (by show V.int (1 + (r2 : Int)) = V.int ((1 + r2 : Nat) : Int); exact congrArg V.int (by omega)) ⟨by rw [List.length_append, hpz.1]; rfl, fun z hz => ?_⟩
      rcases List.mem_append.mp hz with h | h
      · exact hpz.2 z h
      · rw [List.mem_singleton.mp h]; omega
    · obtain ⟨z1, z2⟩ := hpz
      refine ⟨D, us, rfl, .inl ⟨sl_of hl, fun t nt => ?_⟩⟩
      exact q _ _ zs (e1.trans (e2.trans (fr_of (sm_new nt)))) ((l2.same (sm_new nt)).mono (by omega)) (mk_rT hp nt) ⟨by omega, by omega, z2⟩
/-- terms drawn so far -/
structure TOk (sizes : List Nat) (i : Nat) (ts : List (Nat × List Int)) : Prop where
  few : ts.length ≤ i
  asc : ascT ts
  at1 : ∀ p, p ∈ ts → p.1 < i ∧ p.2.length = sizes.getD p.1 0 ∧ ∀ w, w ∈ p.2 → 0 ≤ w ∧ w ≤ 3
def sp_sum (K : PySem.W.Frag) : Sp := fun vs H Q _ => ∃ (s ll lc : Addr) (n : Nat) (v : V) (sizes : List Nat), vs = [.ref s, v] ∧ Ld s ll lc n H ∧ n ≤ 900000 ∧ rT K rN H v sizes ∧ LOk sizes ∧ ∀ x H' sm, Fr s ll H H' → Ld s ll lc (n + 30) H' → rSm K H' x sm → VSm sizes sm → Q x H'
theorem ok__law_sum {f : Addr} {fd : FuncData} (F : Fun K "_law_sum" "_law_sum" s__law_sum f fd) (B : BI mg) (D__law_draw : Dk P w K mg base 2 "_law_draw" ["_law_state", "_law_limit"] sp_draw) (D__law_form : Dk P w K mg base 1 "_law_form" ["_law_terms_so", "_law_bound_so"] (sp_form K)) : FnOk P w K mg base CX0 3 f fd ["_law_state", "_law_lots_here"] (sp_sum K) := by
  refine F.ok sc__law_sum (fun vs H Q E h => ?_) (fun cdv A outer sh H vs Q E hr h => ?_)
  · obtain ⟨s, ll, lc, n, v, sizes, rfl, _⟩ := h
    rfl
  · obtain ⟨s, ll, lc, n, v, sizes, rfl, ld, hn, ⟨a, us, rfl, hT, hp⟩, lo, q⟩ := h
    refine ⟨_, (pss_cons (ps_set (i := 2) sc__law_sum.nd rfl (Or.inl rfl) (pe_lst pa_nil))
      (pss_cons (ps_for PassesOwn.never rfl (pi_enumT (by rfl) B.enumerate (pa_cons (pv 1) pa_nil)) (pgT K rfl (pgs_cons (pg_name (i := 3) sc__law_sum.nd rfl (Or.inl rfl)) (pgs_cons (pg_name (i := 4) sc__law_sum.nd rfl (Or.inl rfl)) pgs_nil))) (pss_one (ps_if (pt_cmpR op_gt (pe_callD D__law_draw hr (pa_cons (pv 0) (pa_cons pe_int pa_nil))) pe_int (nomark _)) (pss_one (ps_expr (pe_bm PySem.F.plainAttrs_list PySem.F.slot_list_append PySem.F.type_list_append mt_append (pv 2) (pa_cons (pe_tup (pa_cons (pv 3) (pa_cons (pe_callTy call_tuple_of (by rfl) B.tuple (by decide +kernel) (pa_cons (pe_lc (own := [("_law_step", 8)]) (g := gName 8) (tt := tYes) rfl sc__law_sum.nd (pi_range1 (by rfl) B.range (pa_cons (pv 4) pa_nil)) (blkOk_by (own := [("_law_step", 8)]) (N := N__law_sum) (sc := (defScope s__law_sum)) (by decide +kernel)) (fun _ _ _ _ _ => (pg_name (i := 8) sc__law_sum.nd rfl (Or.inl rfl))) (fun _ _ _ _ _ => pts_nil) (fun _ _ _ _ _ => (pe_callD D__law_draw hr (pa_cons (pv 0) (pa_cons pe_int pa_nil))))) pa_nil)) pa_nil))) pa_nil)))) pss_nil)))
      (pss_cons (ps_set (i := 5) sc__law_sum.nd rfl (Or.inl rfl) (pe_callB (cr_sum rfl) (by rfl) B.sum (by decide +kernel) (pa_cons (pe_lc (own := [("_law_choice_so", 3), ("_law_weights_so", 7)]) (g := gTup K 2 (gCons (gName 3) (gCons (gName 7) gNil))) (tt := tYes) rfl sc__law_sum.nd (piL K (pv 2)) (blkOk_by (own := [("_law_choice_so", 3), ("_law_weights_so", 7)]) (N := N__law_sum) (sc := (defScope s__law_sum)) (by decide +kernel)) (fun _ _ _ _ _ => (pgT K rfl (pgs_cons (pg_name (i := 3) sc__law_sum.nd rfl (Or.inl rfl)) (pgs_cons (pg_name (i := 7) sc__law_sum.nd rfl (Or.inl rfl)) pgs_nil)))) (fun _ _ _ _ _ => pts_nil) (fun _ _ _ _ _ => (pe_callB (crMn K rfl hr.units) (by rfl) B.min (by decide +kernel) (pa_cons (pv 7) pa_nil)))) pa_nil)))
      (pss_cons (ps_set (i := 6) sc__law_sum.nd rfl (Or.inl rfl) (pe_op op_sub (pe_callB (cr_sum rfl) (by rfl) B.sum (by decide +kernel) (pa_cons (pe_lc (own := [("_law_choice_so", 3), ("_law_weights_so", 7)]) (g := gTup K 2 (gCons (gName 3) (gCons (gName 7) gNil))) (tt := tYes) rfl sc__law_sum.nd (piL K (pv 2)) (blkOk_by (own := [("_law_choice_so", 3), ("_law_weights_so", 7)]) (N := N__law_sum) (sc := (defScope s__law_sum)) (by decide +kernel)) (fun _ _ _ _ _ => (pgT K rfl (pgs_cons (pg_name (i := 3) sc__law_sum.nd rfl (Or.inl rfl)) (pgs_cons (pg_name (i := 7) sc__law_sum.nd rfl (Or.inl rfl)) pgs_nil)))) (fun _ _ _ _ _ => pts_nil) (fun _ _ _ _ _ => (pe_callB (crMx K rfl hr.units) (by rfl) B.max (by decide +kernel) (pa_cons (pv 7) pa_nil)))) pa_nil)) (pv 5)))
      (pss_cons (ps_if (pt_cmpR op_eq (pe_callD D__law_draw hr (pa_cons (pv 0) (pa_cons pe_int pa_nil))) pe_int (nomark _)) (pss_one (ps_ret (pe_callD D__law_form hr (pa_cons (pv 2) (pa_cons (pe_op op_add (pe_op op_add (pv 5) (pv 6)) pe_int) pa_nil))))) pss_nil)
      (pss_one (ps_ret (pe_callD D__law_form hr (pa_cons (pv 2) (pa_cons (pe_op op_add (pv 5) (pe_ifExp (pt_cmpR op_gt (pv 6) pe_int (nomark _)) (pe_op op_add pe_int (pe_callD D__law_draw hr (pa_cons (pv 0) (pa_cons (pv 6) pa_nil)))) pe_int)) pa_nil)))))))))), ?_⟩
    refine ⟨Nat.zero_le _, fun l nl => ?_⟩
    obtain ⟨d1, d2, d3⟩ := ld.new nl
    have nl : H l = none := nl
    have lu := hp.length
    have f4 := lo.few
    have off : ∀ {H' o}, Fr s ll H H' → Fr s ll H (upd H' l o) := fun e x o h1 h2 h => by rw [upd_ne (ne_of_none h nl)]; exact e x o h1 h2 h
    refine ⟨_, rfl, a, us, rfl, (tk_new nl).sq hT, for_it walk_enumT (fun i σ H' => Fr s ll H H' ∧ Ld s ll lc (n + i * 5) H' ∧ ∃ (acc : List V) (ts : List (Nat × List Int)) (y3 y4 y5 y6 y7 y8 : Option V), H' l = some (.lst acc) ∧ Paired (rP K rN (rT K rI) H') acc ts ∧ TOk sizes i ts ∧ σ = [some (.ref s), some (.ref a), some (.ref l), y3, y4, y5, y6, y7, y8])
      ⟨off (Fr.refl _ _ _), by rw [Nat.zero_mul]; exact ld.upd d1 d2 d3, [], [], none, none, none, none, none, none, upd_same, .nil, ⟨Nat.le_refl _, .nil, fun p hp => absurd hp List.not_mem_nil⟩, rfl⟩ (fun i σ H' _ h => (ld.tk h.1).sq hT) (fun i x σ H2 H3 hi hP hy => ?_) fun σ H2 hP => ?_⟩
    · obtain ⟨e2, l2, acc, ts, y3, y4, y5, y6, y7, y8, hl, ha, ht, rfl⟩ := hP
      obtain ⟨T, z1, z2, rfl, nT, rfl, hz1, hz2⟩ := hy
      have hz1 : some (V.int (i : Int)) = some z1 := hz1
      cases hz1
      obtain ⟨z, hz, rz⟩ := pd_get hp hz2
      have rz : z2 = .int (z : Nat) := rz
      subst rz
      have zb := lo.all z (List.mem_of_getElem? hz)
      have e3 := sm_new nT (o := .tup [.int (i : Int), .int (z : Int)])
      refine g_pair (st_of upd_same) ?_
      have l3 := l2.same e3
      have eA := e2.trans (fr_of e3)
      have hl3 := e3 _ _ hl
      have ha3 := up_all (tk_of e3) ha
      generalize upd H2 T (.tup [.int (i : Int), .int (z : Int)]) = H3 at e3 l3 eA hl3 ha3
      refine ⟨_, rfl, s, ll, lc, _, 4, rfl, l3, by omega, by decide, by decide, fun r H4 hr4 e4 l4 => ?_⟩
      refine ⟨(r : Int), 0, rfl, rfl, _, rfl, iteB (fun hb => ?_) fun hb => ?_⟩
      · have hl4 := e4 _ _ d1 d2 hl3
        refine ⟨_, rfl, .inl ⟨rfl, _, sl_of hl4⟩, _, rfl, _, rfl, _, rfl, by omega, by omega, fun D nD => ?_⟩
        refine lc_fr walk_range rI (c := 1) (fun i zs => zs.length = i ∧ ∀ z, z ∈ zs → 0 ≤ z ∧ z ≤ 3) ⟨rfl, fun z hz => absurd hz List.not_mem_nil⟩ (fun i zs h => by rw [h.1]; exact Nat.le_refl _) nD (by omega) l4 (fun _ => True.intro) (fun j x H5 H6 zs Cy Cn hj kt l5 hpz hy cy cn => ?_) fun H5 us' zs e5 l5 hl5 hp5 hpz => ?_
        · obtain ⟨rfl, rfl⟩ := hy
          refine ⟨rfl, _, rfl, s, ll, lc, _, 4, rfl, l5, by omega, by decide, by decide, fun r2 H6 hr2 e6 l6 => ?_⟩
          refine cy _ (r2 : Int) _ e6 (l6.mono (by omega)) rfl ⟨by rw [List.length_append, hpz.1]; rfl, fun z hz => ?_⟩
          rcases List.mem_append.mp hz with h | h
          · exact hpz.2 z h
          · rw [List.mem_singleton.mp h]; omega
        · refine ⟨D, us', rfl, .inl ⟨sl_of hl5, fun t nt => ⟨szb rfl, fun t2 nt2 => ?_⟩⟩⟩
          have r1 : rT K rI (upd H5 t (.tup us')) (.ref t) zs := mk_rT hp5 nt
          have e6 : Same H5 (upd H5 t (.tup us')) := sm_new nt
          generalize upd H5 t (.tup us') = H6 at nt2 r1 e6
          have r2 : rP K rN (rT K rI) (upd H6 t2 (.tup [.int (i : Int), .ref t])) (.ref t2) (i, zs) := mk_rP (R := rN) (S := rT K rI) rfl r1 nt2
          have e7 : Same H5 (upd H6 t2 (.tup [.int (i : Int), .ref t])) := e6.trans (sm_new nt2)
          generalize upd H6 t2 (.tup [.int (i : Int), .ref t]) = H7 at r2 e7
          have eB : Fr s ll H3 H7 := e4.trans (e5.trans (fr_of e7))
          have l7 := l5.same e7
          have hl7 := eB _ _ d1 d2 hl3
          have k8 : Tk H7 (upd H7 l (.lst (acc ++ [.ref t2]))) := tk_lst hl7
          obtain ⟨t1, t2', t3⟩ := ht
          have la := ha.length
          refine ⟨l, acc, _, rfl, rfl, hl7, szl (by omega), off (eA.trans eB), (l7.upd d1 d2 d3).mono (by omega), acc ++ [.ref t2], ts ++ [(i, zs)], _, _, _, _, _, _, upd_same, Paired.snocs (up_all k8 (up_all (l3.tk eB) ha3)) (.cons (Up.up k8 r2) .nil), ⟨by rw [List.length_append]; show ts.length + 1 ≤ i + 1; omega, ?_, fun p hp => ?_⟩, rfl⟩
          · rw [ascT, List.pairwise_append]
            refine ⟨t2', List.pairwise_singleton _ _, fun p hp q hq => ?_⟩
            rw [List.mem_singleton.mp hq]
            exact (t3 p hp).1
          · rcases List.mem_append.mp hp with h | h
            · obtain ⟨g1, g2⟩ := t3 p h
              exact ⟨by omega, g2⟩
            · rw [List.mem_singleton.mp h]
              refine ⟨Nat.lt_succ_self i, ?_, hpz.2⟩
              show zs.length = sizes.getD i 0
              rw [hpz.1, List.getD_eq_getElem?_getD, hz]
              rfl
      · obtain ⟨t1, t2', t3⟩ := ht
        exact ⟨eA.trans e4, l4.mono (by omega), acc, ts, _, _, _, _, _, _, e4 _ _ d1 d2 hl3, up_all (l3.tk e4) ha3, ⟨by omega, t2', fun p hp => by obtain ⟨g1, g2⟩ := t3 p hp; exact ⟨by omega, g2⟩⟩, rfl⟩
    · obtain ⟨e2, l2, acc, ts, y3, y4, y5, y6, y7, y8, hl, ha, ⟨t1, t2, t3⟩, rfl⟩ := hP
      rw [lu] at t1 t3 l2
      have la := ha.length
      have in3 : ∀ p, p ∈ ts → p.2 ≠ [] ∧ p.2.length ≤ 4 := fun p hp => by
        obtain ⟨g1, g2, _⟩ := t3 p hp
        have h1 : sizes.getD p.1 0 = sizes[p.1] := by simp [List.getD_eq_getElem?_getD, g1]
        have h2 := lo.all _ (List.getElem_mem g1)
        refine ⟨fun z => ?_, by omega⟩
        have g3 : sizes.getD p.1 0 = 0 := by rw [← g2, z]; rfl
        omega
      have step : ∀ (f : List Int → Int) {H3 : Hp} {D : Addr} {us' : List V}, Paired (rI H3) us' ((ts.filter fun _ => true).map fun p => f p.2) → us' = (ts.map fun p => f p.2).map V.int := fun f H3 D us' h => by
        rw [List.filter_eq_self.mpr (fun _ _ => rfl)] at h
        exact pd_ints h
      refine ⟨_, rfl, l, rfl, ⟨acc, sl_of hl⟩, fun D nD => ?_⟩
      refine lc_pure walk_list rI ts la.symm (fun _ => true) (fun p => mn p.2) nD (by omega) (fun H3 e => sl_of (e _ _ hl)) (fun j p x H3 H4 Cy Cn hj e hy cy cn => ?_) yat_same fun H3 us' e hl3 hp3 => ?_
      · obtain ⟨rfl, hx⟩ := hy
        obtain ⟨p', hp', c, x1, x2, rfl, hc, hx1, hx2⟩ := pd_get ha hx
        rw [hj] at hp'
        cases hp'
        obtain ⟨d, rfl, hd⟩ := rT_int (Up.up (tk_of e) hx2)
        exact g_pair ((tk_of e).sq hc) ⟨rfl, _, rfl, d, p.2, rfl, .inr hd, (in3 p (List.mem_of_getElem? hj)).1, cy _ _ (Same.refl _) rfl rfl⟩
      · have eu := step mn (D := D) hp3
        subst eu
        refine ⟨D, _, rfl, sl_of hl3, ?_⟩
        have hl4 := e _ _ hl
        have ha4 := up_all (tk_of e) ha
        have l4 := l2.same e
        have e4 := e2.trans (fr_of e)
        refine ⟨_, rfl, l, rfl, ⟨acc, sl_of hl4⟩, fun D2 nD2 => ?_⟩
        refine lc_pure walk_list rI ts la.symm (fun _ => true) (fun p => mx p.2) nD2 (by omega) (fun H3 e => sl_of (e _ _ hl4)) (fun j p x H3 H4 Cy Cn hj e hy cy cn => ?_) yat_same fun H5 us' e5 hl5 hp5 => ?_
        · obtain ⟨rfl, hx⟩ := hy
          obtain ⟨p', hp', c, x1, x2, rfl, hc, hx1, hx2⟩ := pd_get ha4 hx
          rw [hj] at hp'
          cases hp'
          obtain ⟨d, rfl, hd⟩ := rT_int (Up.up (tk_of e) hx2)
          exact g_pair ((tk_of e).sq hc) ⟨rfl, _, rfl, d, p.2, rfl, .inr hd, (in3 p (List.mem_of_getElem? hj)).1, cy _ _ (Same.refl _) rfl rfl⟩
        · have eu := step mx (D := D2) hp5
          subst eu
          have hl6 := e5 _ _ hl4
          have ha6 := up_all (tk_of e5) ha4
          have l6 := l4.same e5
          have e6 := e4.trans (fr_of e5)
          have b1 : 0 ≤ (ts.map fun p => mn p.2).sum ∧ (ts.map fun p => mx p.2).sum ≤ 12 := by
            have s1 := (sum_in (lo := 0) (hi := 3) (xs := ts.map fun p => mn p.2) fun x hx => by
              obtain ⟨p, hp, e⟩ := List.mem_map.mp hx
              have := (t3 p hp).2.2 _ (mn_mem (in3 p hp).1)
              omega).1
            have s2 := (sum_in (lo := 0) (hi := 3) (xs := ts.map fun p => mx p.2) fun x hx => by
              obtain ⟨p, hp, e⟩ := List.mem_map.mp hx
              have := (t3 p hp).2.2 _ (mx_mem (in3 p hp).1)
              omega).2
            rw [List.length_map] at s2
            omega
          refine ⟨D2, _, rfl, sl_of hl5, _, rfl, _, _, rfl, rfl, ?_⟩
          generalize (ts.map fun p => mn p.2).sum = least at b1
          generalize (ts.map fun p => mx p.2).sum = most at b1
          have vt : VTerms sizes ts := ⟨by omega, t2, fun p hp => ⟨(t3 p hp).1, (t3 p hp).2.1⟩⟩
          have in4 : ∀ p, p ∈ ts → p.2 ≠ [] ∧ p.2.length ≤ 1000 := fun p hp => ⟨(in3 p hp).1, by have := (in3 p hp).2; omega⟩
          refine ⟨_, rfl, s, ll, lc, _, 14, rfl, l6, by omega, by decide, by decide, fun r H7 hr7 e7 l7 => ?_⟩
          have hl7 := e7 _ _ d1 d2 hl6
          have ha7 := up_all (l6.tk e7) ha6
          refine ⟨rfl, _, rfl, iteB (fun _ => ?_) fun _ => ?_⟩
          · refine ⟨_, rfl, _, rfl, _, rfl, _, _, rfl, rfl, _, 1, rfl, rfl, l, acc, ts, _, sizes, rfl, sl_of hl7, ha7, vt, in4, fun v H8 sm e8 r8 v8 => ?_⟩
            exact q v H8 sm (e6.trans (e7.trans (fr_of e8))) ((l7.same e8).mono (by omega)) r8 v8
          · refine ⟨_, rfl, _, rfl, _, rfl, most - least, 0, rfl, rfl, _, rfl, iteB (fun hb => ?_) fun _ => ?_⟩
            · have hb := of_decide_eq_true hb
              have ew : most - least = ((most - least).toNat : Int) := by omega
              refine ⟨_, rfl, _, rfl, s, ll, lc, _, (most - least).toNat, ?_, l7, by omega, by omega, by omega, fun r H8 hr8 e8 l8 => ?_⟩
              · show [V.ref s, V.int (most - least)] = _
                rw [← ew]
              · have hl8 := e8 _ _ d1 d2 hl7
                refine ⟨1, (r : Int), rfl, rfl, _, _, rfl, rfl, l, acc, ts, _, sizes, rfl, sl_of hl8, up_all (l7.tk e8) ha7, vt, in4, fun v H9 sm e9 r9 v9 => ?_⟩
                exact q v H9 sm (e6.trans (e7.trans (e8.trans (fr_of e9)))) ((l8.same e9).mono (by omega)) r9 v9
            · refine ⟨_, 0, rfl, rfl, l, acc, ts, _, sizes, rfl, sl_of hl7, ha7, vt, in4, fun v H8 sm e8 r8 v8 => ?_⟩
              exact q v H8 sm (e6.trans (e7.trans (fr_of e8))) ((l7.same e8).mono (by omega)) r8 v8
end
end K36
end
section

set_option Elab.async false
set_option linter.all false
set_option maxRecDepth 100000
set_option maxHeartbeats 4000000
/-! The law's fixed sets and what is let. -/
namespace K36
open PySem PySem.Spec PyProof.Rows L2
abbrev s__law_fixed : Stmt := topS 42
abbrev N__law_fixed : List Str := ["_law_state", "_law_lots_here", "_law_found", "_law_choice_so", "_law_size", "_law_values_so", "_law_worth"]
theorem sc__law_fixed : FnScope N__law_fixed ["_law_state", "_law_lots_here"] (defScope s__law_fixed) := ⟨rfl, rfl, rfl, by decide +kernel, rfl, by decide +kernel, by decide +kernel⟩
abbrev s__law_lets : Stmt := topS 43
abbrev N__law_lets : List Str := ["_law_lots_here", "_law_fixed_so", "_law_found", "_law_choice_so", "_law_values_so", "_law_size"]
theorem sc__law_lets : FnScope N__law_lets ["_law_lots_here", "_law_fixed_so"] (defScope s__law_lets) := ⟨rfl, rfl, rfl, by decide +kernel, rfl, by decide +kernel, by decide +kernel⟩
abbrev s__law_weight : Stmt := topS 37
abbrev N__law_weight : List Str := ["_law_told", "_law_row_so", "_law_choice_so", "_law_weights_so"]
theorem sc__law_weight : FnScope N__law_weight ["_law_told", "_law_row_so"] (defScope s__law_weight) := ⟨rfl, rfl, rfl, by decide +kernel, rfl, by decide +kernel, by decide +kernel⟩
/-- sets drawn so far -/
structure FOk (sizes : List Nat) (i : Nat) (fx : List (Nat × List Nat)) : Prop where
  few : fx.length ≤ i
  asc : fx.Pairwise fun a b => a.1 < b.1
  at1 : ∀ p, p ∈ fx → p.1 < i ∧ VSet p.2 (sizes.getD p.1 0)
theorem FOk.mono {sizes : List Nat} {i : Nat} {fx : List (Nat × List Nat)} (h : FOk sizes i fx) : FOk sizes (i + 1) fx := ⟨by have := h.few; omega, h.asc, fun p hp => ⟨by have := (h.at1 p hp).1; omega, (h.at1 p hp).2⟩⟩
section
variable {P : Program} {w : World} {K : PySem.W.Frag} {mg : Str → Option Value} {base : Heap}
def sp_fixed (K : PySem.W.Frag) : Sp := fun vs H Q _ => ∃ (s ll lc : Addr) (n : Nat) (v : V) (sizes : List Nat), vs = [.ref s, v] ∧ Ld s ll lc n H ∧ n ≤ 900000 ∧ rT K rN H v sizes ∧ LOk sizes ∧ ∀ x H' fx, Fr s ll H H' → Ld s ll lc (n + 30) H' → rT K (rFx K) H' x fx → VFx sizes fx → Q x H'
theorem ok__law_fixed {f : Addr} {fd : FuncData} (F : Fun K "_law_fixed" "_law_fixed" s__law_fixed f fd) (B : BI mg) (D__law_draw : Dk P w K mg base 2 "_law_draw" ["_law_state", "_law_limit"] sp_draw) : FnOk P w K mg base CX0 3 f fd ["_law_state", "_law_lots_here"] (sp_fixed K) := by
  refine F.ok sc__law_fixed (fun vs H Q E h => ?_) (fun cdv A outer sh H vs Q E hr h => ?_)
  · obtain ⟨s, ll, lc, n, v, sizes, rfl, _⟩ := h
    rfl
  · obtain ⟨s, ll, lc, n, v, sizes, rfl, ld, hn, ⟨a, us, rfl, hT, hp⟩, lo, q⟩ := h
    refine ⟨_, (pss_cons (ps_set (i := 2) sc__law_fixed.nd rfl (Or.inl rfl) (pe_tup pa_nil))
      (pss_cons (ps_for PassesOwn.never rfl (pi_enumT (by rfl) B.enumerate (pa_cons (pv 1) pa_nil)) (pgT K rfl (pgs_cons (pg_name (i := 3) sc__law_fixed.nd rfl (Or.inl rfl)) (pgs_cons (pg_name (i := 4) sc__law_fixed.nd rfl (Or.inl rfl)) pgs_nil))) (pss_one (ps_if (pt_cmpR op_eq (pe_callD D__law_draw hr (pa_cons (pv 0) (pa_cons pe_int pa_nil))) pe_int (nomark _)) (pss_cons (ps_setLc (i := 5) (own := [("_law_worth", 6)]) (g := gName 6) rfl sc__law_fixed.nd rfl rfl (sw_true rfl rfl rfl (by decide +kernel)) (pi_range1 (by rfl) B.range (pa_cons (pv 4) pa_nil)) (blkOk_by (own := [("_law_worth", 6)]) (N := N__law_fixed) (sc := (defScope s__law_fixed)) (by decide +kernel)) (fun _ _ _ _ _ => (pg_name (i := 6) sc__law_fixed.nd rfl (Or.inl rfl))) (fun _ _ _ _ _ => pts_one (pt_cmpR op_eq (pe_callD D__law_draw hr (pa_cons (pv 0) (pa_cons pe_int pa_nil))) pe_int (nomark _))) (fun _ _ _ _ _ => (pv 6)))
      (pss_cons (ps_set (i := 5) sc__law_fixed.nd rfl (Or.inl rfl) (pe_ifExp (pt_cmpR (opNe K hr.units) (pv 5) (pe_lst pa_nil) (nomark _)) (pv 5) (pe_lst (pa_cons (pe_callD D__law_draw hr (pa_cons (pv 0) (pa_cons (pv 4) pa_nil))) pa_nil))))
      (pss_one (ps_set (i := 2) sc__law_fixed.nd rfl (Or.inl rfl) (pe_op (opCat K) (pv 2) (pe_tup (pa_cons (pe_tup (pa_cons (pv 3) (pa_cons (pe_callTy call_tuple_of (by rfl) B.tuple (by decide +kernel) (pa_cons (pv 5) pa_nil)) pa_nil))) pa_nil))))))) pss_nil)))
      (pss_one (ps_ret (pv 2))))), ?_⟩
    have lu := hp.length
    have f4 := lo.few
    refine ⟨Nat.zero_le _, fun t nt => ?_⟩
    have r0 : rT K (rFx K) (upd H t (.tup [])) (.ref t) [] := mk_rT .nil nt
    refine ⟨_, rfl, a, us, rfl, (tk_new nt).sq hT, for_it walk_enumT (fun i σ H' => Fr s ll H H' ∧ Ld s ll lc (n + i * 6) H' ∧ ∃ (x2 : V) (fx : List (Nat × List Nat)) (y3 y4 y5 y6 : Option V), rT K (rFx K) H' x2 fx ∧ FOk sizes i fx ∧ σ = [some (.ref s), some (.ref a), some x2, y3, y4, y5, y6])
      ⟨fr_of (sm_new nt), by rw [Nat.zero_mul]; exact ld.same (sm_new nt), _, [], none, none, none, none, r0, ⟨Nat.le_refl _, .nil, fun p hp => absurd hp List.not_mem_nil⟩, rfl⟩ (fun i σ H' _ h => (ld.tk h.1).sq hT) (fun i x σ H2 H3 hi hP hy => ?_) fun σ H2 hP => ?_⟩
    · obtain ⟨e2, l2, x2, fx, y3, y4, y5, y6, rx, hf, rfl⟩ := hP
      obtain ⟨T, z1, z2, rfl, nT, rfl, hz1, hz2⟩ := hy
      have hz1 : some (V.int (i : Int)) = some z1 := hz1
      cases hz1
      obtain ⟨z, hz, rz⟩ := pd_get hp hz2
      have rz : z2 = .int (z : Nat) := rz
      subst rz
      have zb := lo.all z (List.mem_of_getElem? hz)
      have e3 := sm_new nT (o := .tup [.int (i : Int), .int (z : Int)])
      refine g_pair (st_of upd_same) ?_
      have l3 := l2.same e3
      have eA := e2.trans (fr_of e3)
      have rx3 := Up.up (tk_of e3) rx
      generalize upd H2 T (.tup [.int (i : Int), .int (z : Int)]) = H3 at e3 l3 eA rx3
      refine ⟨_, rfl, s, ll, lc, _, 3, rfl, l3, by omega, by decide, by decide, fun r H4 hr4 e4 l4 => ?_⟩
      refine ⟨rfl, _, rfl, iteB (fun hb => ?_) fun hb => ?_⟩
      · have rx4 := Up.up (l3.tk e4) rx3
        have eB := eA.trans e4
        refine ⟨_, rfl, _, rfl, by omega, by omega, fun D nD => ?_⟩
        refine lc_fr walk_range rN (c := 1) (fun i zs => zs.length ≤ i ∧ asc zs ∧ ∀ z, z ∈ zs → z < i) ⟨Nat.le_refl _, .nil, fun z hz => absurd hz List.not_mem_nil⟩ (fun i zs h => h.1) nD (by omega) l4 (fun _ => True.intro) (fun j x H5 H6 zs Cy Cn hj kt l5 hpz hy cy cn => ?_) fun H5 us' zs e5 l5 hl5 hp5 hpz => ?_
        · obtain ⟨rfl, rfl⟩ := hy
          obtain ⟨p1, p2, p3⟩ := hpz
          refine ⟨rfl, _, rfl, s, ll, lc, _, 2, rfl, l5, by omega, by decide, by decide, fun r2 H6 hr2 e6 l6 => ?_⟩
          refine ⟨rfl, _, rfl, iteB (fun _ => ⟨_, rfl, ?_⟩) fun _ => ?_⟩
          · refine cy _ j _ e6 (l6.mono (by omega)) (by show V.int (0 + (j : Int)) = V.int (j : Int); rw [Int.zero_add]) ⟨by rw [List.length_append]; show zs.length + 1 ≤ j + 1; omega, ?_, fun z hz => ?_⟩
            · rw [asc, List.pairwise_append]
              refine ⟨p2, List.pairwise_singleton _ _, fun x hx y hy => ?_⟩
              rw [List.mem_singleton.mp hy]
              exact p3 x hx
            · rcases List.mem_append.mp hz with h | h
              · have := p3 z h; omega
              · rw [List.mem_singleton.mp h]; omega
          · exact cn _ e6 (l6.mono (by omega)) ⟨by omega, p2, fun z hz => by have := p3 z hz; omega⟩
        · -- the values, or one value
          have fin : ∀ (y5 : V) (H6 : Hp) (vs : List Nat) (D : Addr) (us : List V), y5 = .ref D → Fr s ll H3 H6 → Ld s ll lc (n + i * 6 + 6) H6 → H6 D = some (.lst us) → Paired (rN H6) us vs → VSet vs z →
              (tAsg (tOp (rCatA K) (tVar 2) (tTup (tCons (tTup (tCons (tVar 3) (tCons (tCB (fun xs H_1 Q => ∃ p ys, xs = [V.ref p] ∧ ((SqL K H_1 p ys ∧ ∀ (l : Addr), H_1 l = none → Q (V.ref l) (upd H_1 l (HO.tup ys))) ∨ SqT K H_1 p ys ∧ Q (V.ref p) H_1)) (tCons (tVar 5) tNil)) tNil))) tNil))) (gName 2))
                { nx := fun σ H' => Fr s ll H H' ∧ Ld s ll lc (n + (i + 1) * 6) H' ∧ ∃ (x2 : V) (fx : List (Nat × List Nat)) (y3 y4 y5 y6 : Option V), rT K (rFx K) H' x2 fx ∧ FOk sizes (i + 1) fx ∧ σ = [some (.ref s), some (.ref a), some x2, y3, y4, y5, y6], rt := fun v H' => Q v H' }
                [some (.ref s), some (.ref a), some x2, some (.int (i : Int)), some (.int (z : Int)), some y5, y6] H6 := by
            intro y5 H6 vs D us e1 f1 l1 hD hv vset
            subst e1
            refine ⟨_, rfl, _, rfl, _, rfl, D, us, rfl, .inl ⟨sl_of hD, fun t1 nt1 => ⟨szb rfl, fun t2 nt2 => ⟨szb rfl, fun t3 nt3 => ?_⟩⟩⟩⟩
            have r1 : rT K rN (upd H6 t1 (.tup us)) (.ref t1) vs := mk_rT hv nt1
            have m1 : Same H6 (upd H6 t1 (.tup us)) := sm_new nt1
            generalize upd H6 t1 (.tup us) = H7 at nt2 nt3 r1 m1
            have r2 : rFx K (upd H7 t2 (.tup [.int (i : Int), .ref t1])) (.ref t2) (i, vs) := mk_rP (R := rN) (S := rT K rN) rfl r1 nt2
            have m2 := m1.trans (sm_new nt2 (o := .tup [.int (i : Int), .ref t1]))
            generalize upd H7 t2 (.tup [.int (i : Int), .ref t1]) = H8 at nt3 r2 m2
            have r3 : rT K (rFx K) (upd H8 t3 (.tup [.ref t2])) (.ref t3) [(i, vs)] := mk_rT (.cons r2 .nil) nt3
            have m3 := m2.trans (sm_new nt3 (o := .tup [.ref t2]))
            generalize upd H8 t3 (.tup [.ref t2]) = H9 at r3 m3
            have f9 : Fr s ll H3 H9 := f1.trans (fr_of m3)
            have l9 := l1.same m3
            refine cat_rT (Up.up (l3.tk f9) rx3) r3 (by have := hf.few; show fx.length + 1 ≤ 1000000; omega) fun v H10 e10 r10 => ?_
            refine ⟨eA.trans (f9.trans (fr_of e10)), (l9.same e10).mono (by omega), v, fx ++ [(i, vs)], _, _, _, _, r10, ⟨by have := hf.few; rw [List.length_append]; show fx.length + 1 ≤ i + 1; omega, ?_, fun p hp => ?_⟩, rfl⟩
            · rw [List.pairwise_append]
              refine ⟨hf.asc, List.pairwise_singleton _ _, fun x hx y hy => ?_⟩
              rw [List.mem_singleton.mp hy]
              exact (hf.at1 x hx).1
            · rcases List.mem_append.mp hp with h | h
              · have := hf.at1 p h; exact ⟨by omega, this.2⟩
              · rw [List.mem_singleton.mp h]
                refine ⟨Nat.lt_succ_self i, ?_⟩
                have e : sizes.getD i 0 = z := by rw [List.getD_eq_getElem?_getD, hz]; rfl
                show VSet vs (sizes.getD i 0)
                rw [e]
                exact vset
          obtain ⟨p1, p2, p3⟩ := hpz
          have ez : (z : Int).toNat = z := Int.toNat_natCast z
          rw [ez] at p1 p3 l5
          refine ⟨_, rfl, Nat.zero_le _, fun nl nnl => ne_nil isD_N (by decide) (sl_of (by rw [upd_ne (ne_of_none hl5 nnl)]; exact hl5)) (up_all (tk_new nnl) hp5) (sl_of upd_same) ⟨_, rfl, ?_⟩⟩
          have m1 : Same H5 (upd H5 nl (.lst [])) := sm_new nnl
          have l6 := l5.same m1
          have hl6 := m1 _ _ hl5
          have hp6 := up_all (tk_of m1) hp5
          have f6 : Fr s ll H4 (upd H5 nl (.lst [])) := e5.trans (fr_of m1)
          generalize upd H5 nl (.lst []) = H6 at l6 hl6 hp6 f6
          cases zs with
          | nil =>
            refine iteF ⟨_, rfl, _, rfl, s, ll, lc, _, z, rfl, l6, by omega, by omega, by omega, fun r2 H7 hr2 e7 l7 => ⟨szb rfl, fun q1 nq1 => ?_⟩⟩
            refine fin (.ref q1) _ [r2] q1 [.int (r2 : Int)] rfl (e4.trans (f6.trans (e7.trans (fr_of (sm_new nq1))))) ((l7.same (sm_new nq1)).mono (by omega)) upd_same (.cons rfl .nil) ⟨List.cons_ne_nil _ _, List.pairwise_singleton _ _, fun v hv => by rw [List.mem_singleton.mp hv]; exact hr2, Nat.le_of_ble_eq_true rfl⟩
          | cons z1 zs =>
            refine iteT ⟨_, rfl, ?_⟩
            exact fin (.ref D) H6 (z1 :: zs) D _ rfl (e4.trans f6) (l6.mono (by omega)) hl6 hp6 ⟨List.cons_ne_nil _ _, p2, p3, by omega⟩
      · exact ⟨eA.trans e4, l4.mono (by omega), x2, fx, _, _, _, _, Up.up (l3.tk e4) rx3, hf.mono, rfl⟩
    · obtain ⟨e2, l2, x2, fx, y3, y4, y5, y6, rx, ⟨g1, g2, g3⟩, rfl⟩ := hP
      rw [lu] at l2 g1 g3
      exact ⟨_, rfl, q x2 H2 fx e2 (l2.mono (by omega)) rx ⟨by omega, g2, g3⟩⟩
def sp_lets (K : PySem.W.Frag) : Sp := fun vs H Q _ => ∃ (v u : V) (sizes : List Nat) (fx : List (Nat × List Nat)), vs = [v, u] ∧ rT K rN H v sizes ∧ rT K (rFx K) H u fx ∧ sizes.length ≤ 100 ∧ (∀ z, z ∈ sizes → z ≤ 1000) ∧ (∀ p, p ∈ fx → p.1 < sizes.length) ∧ ∀ x H', Same H H' → rFam K H' x (let0 sizes fx) → Q x H'
theorem ok__law_lets {f : Addr} {fd : FuncData} (F : Fun K "_law_lets" "_law_lets" s__law_lets f fd) (B : BI mg) : FnOk P w K mg base CX0 1 f fd ["_law_lots_here", "_law_fixed_so"] (sp_lets K) := by
  refine F.ok sc__law_lets (fun vs H Q E h => ?_) (fun cdv A outer s H vs Q E hr h => ?_)
  · obtain ⟨v, u, sizes, fx, rfl, _⟩ := h
    rfl
  · obtain ⟨_, _, sizes, fx, rfl, ⟨a, us, rfl, hT, hp⟩, ⟨b, ws, rfl, hT2, hp2⟩, few, small, named, q⟩ := h
    refine ⟨_, (pss_cons (ps_setLc (i := 2) (own := [("_law_size", 5)]) (g := gName 5) (tt := tYes) rfl sc__law_lets.nd rfl rfl (sw_true rfl rfl rfl (by decide +kernel)) (piT K (pv 0)) (blkOk_by (own := [("_law_size", 5)]) (N := N__law_lets) (sc := (defScope s__law_lets)) (by decide +kernel)) (fun _ _ _ _ _ => (pg_name (i := 5) sc__law_lets.nd rfl (Or.inl rfl))) (fun _ _ _ _ _ => pts_nil) (fun _ _ _ _ _ => (pe_tupRg rfl (by rfl) B.tuple (prg_1 (by rfl) B.range (pv 5)))))
      (pss_cons (ps_for PassesOwn.never rfl (piT K (pv 1)) (pgT K rfl (pgs_cons (pg_name (i := 3) sc__law_lets.nd rfl (Or.inl rfl)) (pgs_cons (pg_name (i := 4) sc__law_lets.nd rfl (Or.inl rfl)) pgs_nil))) (pss_one (ps_asg (pv 4) (pg_sub (pv 2) (pv 3) set_list))))
      (pss_one (ps_ret (pe_callTy call_tuple_of (by rfl) B.tuple (by decide +kernel) (pa_cons (pv 2) pa_nil)))))), ?_⟩
    refine ⟨_, rfl, a, rfl, ⟨us, hT⟩, fun D nD => lc_pure walk_tup (rT K rN) sizes hp.length.symm (fun _ => true) List.range nD (by rw [hp.length]; omega) (fun H2 e => (tk_of e).sq hT) (fun i z x H2 H3 Cy Cn hz e hy cy cn => ?_) yat_same fun H2 us' e hl hp' => ?_⟩
    · obtain ⟨rfl, hx⟩ := hy
      obtain ⟨z', hz', rz⟩ := pd_get hp hx
      rw [hz] at hz'
      cases hz'
      have rz : x = .int (z : Nat) := rz
      subst rz
      have zs := small z (List.mem_of_getElem? hz)
      refine ⟨rfl, _, rfl, _, rfl, RgOk.of_le (by omega) (by omega) (by omega) (by omega), fun t nt => ?_⟩
      rw [rg_nV]
      exact cy _ _ (sm_new nt) (mk_rT (nats_pd (List.range z)) nt) rfl
    · rw [List.filter_eq_self.mpr (fun _ _ => rfl)] at hp'
      have nD' : H D = none := nD
      refine ⟨_, rfl, b, rfl, ⟨ws, (tk_of e).sq hT2⟩, for_tup (xs := ws) (fun i σ H' => Same H H' ∧ ∃ (acc : List V) (y3 y4 y5 : Option V), σ = [some (.ref a), some (.ref b), some (.ref D), y3, y4, y5] ∧ H' D = some (.lst acc) ∧ Paired (rT K rN H') acc (let0 sizes (fx.take i))) ⟨e, us', none, none, none, rfl, hl, hp'⟩ (fun i σ H' _ h => (tk_of h.1).sq hT2) (fun i x σ H3 hx hP => ?_) fun σ H3 hP => ?_⟩
      · obtain ⟨e3, acc, y3, y4, y5, rfl, hD3, ha⟩ := hP
        obtain ⟨p, hpi, c, x1, x2, rfl, hc, hx1, hx2⟩ := pd_get hp2 hx
        have hx1 : x1 = .int (p.1 : Nat) := hx1
        subst hx1
        have lt := named p (List.mem_of_getElem? hpi)
        have la : acc.length = sizes.length := by rw [ha.length, let0_len]
        refine g_pair ((tk_of e3).sq hc) ⟨_, rfl, _, rfl, _, rfl, D, _, (p.1 : Int), p.1, rfl, rfl, hD3, ixN_nat (by omega), sm_mut e3 nD', acc.set p.1 x2, _, _, _, rfl, upd_same, ?_⟩
        have k4 : Tk H3 (upd H3 D (.lst (acc.set p.1 x2))) := tk_lst hD3
        have e4 : let0 sizes (fx.take (i + 1)) = (let0 sizes (fx.take i)).set p.1 p.2 := by
          unfold let0
          rw [List.take_add_one, hpi, List.foldl_append]
          rfl
        rw [e4]
        have upd1 : ∀ {H : Hp} {xs : List V} {ys : List (List Nat)} (j : Nat) {x : V} {y : List Nat}, Paired (rT K rN H) xs ys → rT K rN H x y → Paired (rT K rN H) (xs.set j x) (ys.set j y) := by
          intro H xs ys j x y hp hr
          induction hp generalizing j with
          | nil => exact .nil
          | cons r t ih =>
            cases j with
            | zero => exact .cons hr t
            | succ j => exact .cons r (ih j)
        exact upd1 p.1 (up_all k4 ha) (Up.up (R := rT K rN) ((tk_of e3).trans k4) hx2)
      · obtain ⟨e3, acc, y3, y4, y5, rfl, hD3, ha⟩ := hP
        rw [hp2.length, List.take_length] at ha
        exact ⟨_, rfl, D, acc, rfl, .inl ⟨sl_of hD3, fun t nt => q _ _ (e3.trans (sm_new nt)) (mk_rT ha nt)⟩⟩
def sp_weight (K : PySem.W.Frag) : Sp := fun vs H Q _ => ∃ (v u : V) (sm : Sm) (r : List Nat), vs = [v, u] ∧ rSm K H v sm ∧ rT K rN H u r ∧ sm.1.length ≤ 1000 ∧ (∀ p, p ∈ sm.1 → p.1 < r.length ∧ r.getD p.1 0 < p.2.length) ∧ ∀ H', Same H H' → Q (.int (wt sm.1 r)) H'
theorem ok__law_weight {f : Addr} {fd : FuncData} (F : Fun K "_law_weight" "_law_weight" s__law_weight f fd) (B : BI mg) : FnOk P w K mg base CX0 1 f fd ["_law_told", "_law_row_so"] (sp_weight K) := by
  refine F.ok sc__law_weight (fun vs H Q E h => ?_) (fun cdv A outer s H vs Q E hr h => ?_)
  · obtain ⟨v, u, sm, r, rfl, _⟩ := h
    rfl
  · obtain ⟨_, _, sm, r, rfl, ⟨a, x1, x2, rfl, hT, ⟨b, ws, rfl, hT2, hp2⟩, _⟩, ⟨c, us, rfl, hT3, hp3⟩, few, hin, q⟩ := h
    refine ⟨_, (pss_one (ps_ret (pe_callB (cr_sum rfl) (by rfl) B.sum (by decide +kernel) (pa_cons (pe_lc (own := [("_law_choice_so", 2), ("_law_weights_so", 3)]) (g := gTup K 2 (gCons (gName 2) (gCons (gName 3) gNil))) (tt := tYes) rfl sc__law_weight.nd (piT K (pe_ix (ixT K) (pv 0) pe_int (fun _ _ => rfl))) (blkOk_by (own := [("_law_choice_so", 2), ("_law_weights_so", 3)]) (N := N__law_weight) (sc := (defScope s__law_weight)) (by decide +kernel)) (fun _ _ _ _ _ => (pgT K rfl (pgs_cons (pg_name (i := 2) sc__law_weight.nd rfl (Or.inl rfl)) (pgs_cons (pg_name (i := 3) sc__law_weight.nd rfl (Or.inl rfl)) pgs_nil)))) (fun _ _ _ _ _ => pts_nil) (fun _ _ _ _ _ => (pe_ix (ixT K) (pv 3) (pe_ix (ixT K) (pv 1) (pv 2) (fun _ _ => rfl)) (fun _ _ => rfl)))) pa_nil)))), ?_⟩
    refine ⟨_, rfl, a, _, 0, _, rfl, rfl, hT, atI_nat (j := 0) rfl, b, rfl, ⟨ws, hT2⟩, fun D nD => ?_⟩
    refine lc_pure walk_tup rI sm.1 hp2.length.symm (fun _ => true) (fun p => p.2.getD (r.getD p.1 0) 0) nD (by rw [hp2.length]; omega) (fun H2 e2 => (tk_of e2).sq hT2) (fun i z x H2 H3 Cy Cn hz e2 hy cy cn => ?_) yat_same fun H2 us' e2 hl hp' => ?_
    · obtain ⟨rfl, hx⟩ := hy
      obtain ⟨z', hz', g, y1, y2, rfl, hg, r1, r2⟩ := pd_get hp2 hx
      rw [hz] at hz'
      cases hz'
      have r1 : y1 = .int (z.1 : Nat) := r1
      subst r1
      have k2 := tk_of e2
      obtain ⟨l1, l2⟩ := hin z (List.mem_of_getElem? hz)
      obtain ⟨d, rfl, hd⟩ := rT_int (Up.up k2 r2)
      have e1 : r[z.1]? = some (r.getD z.1 0) := by simp [List.getD_eq_getElem?_getD, l1]
      have e3 : z.2[r.getD z.1 0]? = some (z.2.getD (r.getD z.1 0) 0) := by rw [List.getD_eq_getElem?_getD (l := z.2), List.getElem?_eq_getElem l2]; rfl
      obtain ⟨u, hu, ru⟩ := rT_at hp3 e1
      have ru : u = .int ((r.getD z.1 0 : Nat) : Int) := ru
      subst ru
      refine g_pair (k2.sq hg) ⟨rfl, _, rfl, _, rfl, _, rfl, c, us, _, _, rfl, rfl, k2.sq hT3, hu, d, _, _, _, rfl, rfl, hd, atI_nat (by rw [List.getElem?_map, e3]; rfl), cy _ _ (Same.refl _) rfl rfl⟩
    · rw [List.filter_eq_self.mpr (fun _ _ => rfl)] at hp'
      have eu := pd_ints hp'
      subst eu
      exact ⟨D, _, rfl, sl_of hl, q H2 e2⟩
end
end K36
end
section

set_option Elab.async false
set_option linter.all false
set_option maxRecDepth 100000
set_option maxHeartbeats 4000000
/-! The law's rows. -/
namespace K36
open PySem PySem.Spec PyProof.Rows L2
abbrev s__law_rows : Stmt := topS 38
abbrev N__law_rows : List Str := ["_law_sizes_so", "_law_found", "_law_size", "_law_more", "_law_row_so", "_law_worth"]
theorem sc__law_rows : FnScope N__law_rows ["_law_sizes_so"] (defScope s__law_rows) := ⟨rfl, rfl, rfl, by decide +kernel, rfl, by decide +kernel, by decide +kernel⟩
abbrev s__law_within : Stmt := topS 44
abbrev N__law_within : List Str := ["_law_lets_so", "_law_row_so", "_law_values_so", "_law_worth"]
theorem sc__law_within : FnScope N__law_within ["_law_lets_so", "_law_row_so"] (defScope s__law_within) := ⟨rfl, rfl, rfl, by decide +kernel, rfl, by decide +kernel, by decide +kernel⟩
abbrev s__law_keeping : Stmt := topS 45
abbrev N__law_keeping : List Str := ["_law_lots_here", "_law_sums_so", "_law_lets_so", "_law_found", "_law_row_so", "_law_told"]
theorem sc__law_keeping : FnScope N__law_keeping ["_law_lots_here", "_law_sums_so", "_law_lets_so"] (defScope s__law_keeping) := ⟨rfl, rfl, rfl, by decide +kernel, rfl, by decide +kernel, by decide +kernel⟩
/-! ### all rows -/
def rowStep (f : List (List Nat)) (z : Nat) : List (List Nat) := f.flatMap fun r => (List.range z).map fun w => r ++ [w]
def rowsOf (sizes : List Nat) : List (List Nat) := sizes.foldl rowStep [[]]
theorem rowStep_len : ∀ (f : List (List Nat)) (z : Nat), (rowStep f z).length = f.length * z
  | [], z => by simp [rowStep]
  | r :: f, z => by
    have ih := rowStep_len f z
    have e : rowStep (r :: f) z = ((List.range z).map fun w => r ++ [w]) ++ rowStep f z := by unfold rowStep; rw [List.flatMap_cons]
    rw [e, List.length_append, List.length_map, List.length_range, ih, List.length_cons, Nat.add_mul, Nat.one_mul, Nat.add_comm]
def RowOf (pre : List Nat) (r : List Nat) : Prop := r.length = pre.length ∧ ∀ c, c < pre.length → r.getD c 0 < pre.getD c 0
theorem rows_go : ∀ (sizes pre : List Nat) (f : List (List Nat)), (∀ r, r ∈ f → RowOf pre r) → ∀ r, r ∈ sizes.foldl rowStep f → RowOf (pre ++ sizes) r
  | [], pre, f, h, r, hr => by rw [List.append_nil]; exact h r hr
  | z :: sizes, pre, f, h, r, hr => by
    have e : pre ++ z :: sizes = (pre ++ [z]) ++ sizes := by rw [List.append_assoc]; rfl
    rw [e]
    refine rows_go sizes (pre ++ [z]) (rowStep f z) (fun r hr => ?_) r hr
    obtain ⟨q, hq, hm⟩ := List.mem_flatMap.mp hr
    obtain ⟨w, hw, e⟩ := List.mem_map.mp hm
    obtain ⟨h1, h2⟩ := h q hq
    have hw := List.mem_range.mp hw
    subst e
    refine ⟨by rw [List.length_append, List.length_append, h1]; rfl, fun c hc => ?_⟩
    rw [List.length_append, List.length_singleton] at hc
    rw [List.getD_eq_getElem?_getD, List.getD_eq_getElem?_getD]
    by_cases hcl : c < pre.length
    · rw [List.getElem?_append_left (by omega), List.getElem?_append_left hcl]
      have := h2 c hcl
      rw [List.getD_eq_getElem?_getD, List.getD_eq_getElem?_getD] at this
      exact this
    · have ec : c = pre.length := by omega
      subst ec
      rw [List.getElem?_append_right (by omega), List.getElem?_append_right (by omega), h1]
      simp
      exact hw
theorem rowsOf_ok {sizes r : List Nat} (h : r ∈ rowsOf sizes) : RowOf sizes r := by
  have := rows_go sizes [] [[]] (fun r hr => by rw [List.mem_singleton.mp hr]; exact ⟨rfl, fun c hc => absurd hc (Nat.not_lt_zero c)⟩) r h
  rw [List.nil_append] at this
  exact this
theorem rowsOf_snoc {sizes : List Nat} {i z : Nat} (h : sizes[i]? = some z) : rowsOf (sizes.take (i + 1)) = rowStep (rowsOf (sizes.take i)) z := by
  unfold rowsOf
  rw [List.take_add_one, h, List.foldl_append]
  rfl
theorem rowsOf_len {sizes : List Nat} (h : ∀ z, z ∈ sizes → z ≤ 4) : ∀ i, (rowsOf (sizes.take i)).length ≤ 4 ^ i
  | 0 => by rw [List.take_zero]; exact Nat.le_refl _
  | i + 1 => by
    have ih := rowsOf_len h i
    cases e : sizes[i]? with
    | none =>
      rw [List.take_add_one, e]
      show (rowsOf (sizes.take i ++ [])).length ≤ _
      rw [List.append_nil]
      exact Nat.le_trans ih (Nat.pow_le_pow_right (by omega) (by omega))
    | some z =>
      rw [rowsOf_snoc e, rowStep_len, Nat.pow_succ]
      exact Nat.mul_le_mul ih (h z (List.mem_of_getElem? e))
theorem rowStep_take {f : List (List Nat)} {j z : Nat} {r : List Nat} (h : f[j]? = some r) : rowStep (f.take (j + 1)) z = rowStep (f.take j) z ++ (List.range z).map fun w => r ++ [w] := by
  unfold rowStep
  rw [List.take_add_one, h, List.flatMap_append]
  show _ ++ List.flatMap _ [r] = _
  rw [List.flatMap_cons, List.flatMap_nil, List.append_nil]
theorem inV_nat (n : Nat) : ∀ ns : List Nat, inV (.int (n : Int)) (nV ns) = decide (n ∈ ns)
  | [] => by simp [inV]
  | m :: ns => by
    have ih := inV_nat n ns
    have e : inV (.int (n : Int)) (nV (m :: ns)) = (eqV (.int (m : Int)) (.int (n : Int)) || inV (.int (n : Int)) (nV ns)) := rfl
    rw [e, ih]
    show (((m : Int) == (n : Int)) || decide (n ∈ ns)) = decide (n ∈ m :: ns)
    by_cases h : m = n
    · subst h; simp
    · have h2 : ¬ n = m := fun z => h z.symm
      have h3 : ((m : Int) == (n : Int)) = false := by simp; omega
      rw [h3, Bool.false_or]
      simp [h2]
theorem flat_nat (ns : List Nat) : (nV ns).all flatV = true := by
  induction ns with
  | nil => rfl
  | cons n ns ih => exact ih
section
variable {P : Program} {w : World} {K : PySem.W.Frag} {mg : Str → Option Value} {base : Heap}
def sp_rows (K : PySem.W.Frag) : Sp := fun vs H Q _ => ∃ (v : V) (sizes : List Nat), vs = [v] ∧ rT K rN H v sizes ∧ LOk sizes ∧ ∀ p us H', Same H H' → H p = none → H' p = some (.lst us) → Paired (rT K rN H') us (rowsOf sizes) → Q (.ref p) H'
theorem ok__law_rows {f : Addr} {fd : FuncData} (F : Fun K "_law_rows" "_law_rows" s__law_rows f fd) (B : BI mg) : FnOk P w K mg base CX0 1 f fd ["_law_sizes_so"] (sp_rows K) := by
  refine F.ok sc__law_rows (fun vs H Q E h => ?_) (fun cdv A outer s H vs Q E hr h => ?_)
  · obtain ⟨v, sizes, rfl, _⟩ := h
    rfl
  · obtain ⟨_, sizes, rfl, ⟨a, us, rfl, hT, hp⟩, lo, q⟩ := h
    have f4 := lo.few
    have rl := rowsOf_len fun z hz => (lo.all z hz).2
    have p4 : ∀ i, i ≤ 4 → 4 ^ i ≤ 256 := fun i hi => Nat.pow_le_pow_right (n := 4) (by omega) hi
    refine ⟨_, (pss_cons (ps_set (i := 1) sc__law_rows.nd rfl (Or.inl rfl) (pe_lst (pa_cons (pe_tup pa_nil) pa_nil)))
      (pss_cons (ps_for PassesOwn.never rfl (piT K (pv 0)) (pg_name (i := 2) sc__law_rows.nd rfl (Or.inl rfl)) (pss_cons (ps_set (i := 3) sc__law_rows.nd rfl (Or.inl rfl) (pe_lst pa_nil))
      (pss_cons (ps_for PassesOwn.never rfl (piL K (pv 1)) (pg_name (i := 4) sc__law_rows.nd rfl (Or.inr rfl)) (pss_one (ps_set (i := 3) sc__law_rows.nd rfl (Or.inl rfl) (pe_op op_cat (pv 3) (pe_lc (own := [("_law_worth", 5)]) (g := gName 5) (tt := tYes) rfl sc__law_rows.nd (pi_range1 (by rfl) B.range (pa_cons (pv 2) pa_nil)) (blkOk_by (own := [("_law_worth", 5)]) (N := N__law_rows) (sc := (defScope s__law_rows)) (by decide +kernel)) (fun _ _ _ _ _ => (pg_name (i := 5) sc__law_rows.nd rfl (Or.inl rfl))) (fun _ _ _ _ _ => pts_nil) (fun _ _ _ _ _ => (pe_op (opCat K) (pv 4) (pe_tup (pa_cons (pv 5) pa_nil)))))))))
      (pss_one (ps_set (i := 1) sc__law_rows.nd rfl (Or.inl rfl) (pe_callTy call_list_of (by rfl) B.list (by decide +kernel) (pa_cons (pv 3) pa_nil)))))))
      (pss_one (ps_ret (pv 1))))), ?_⟩
    refine ⟨Nat.zero_le _, fun t nt => ⟨szb rfl, fun l nl => ?_⟩⟩
    have r0 : Paired (rT K rN (upd (upd H t (.tup [])) l (.lst [.ref t]))) [.ref t] (rowsOf (sizes.take 0)) := by
      rw [List.take_zero]
      exact .cons (Up.up (R := rT K rN) (tk_new nl) (mk_rT .nil nt)) .nil
    have hH : H l = none := by
      cases e : H l with
      | none => rfl
      | some o => rw [sm_new nt _ _ e] at nl; cases nl
    have e0 := (sm_new nt (o := .tup [])).trans (sm_new nl (o := .lst [.ref t]))
    refine ⟨_, rfl, a, rfl, ⟨us, (tk_of e0).sq hT⟩, for_tup (xs := us) (fun i σ H' => Same H H' ∧ ∃ (m : Addr) (ws : List V) (y2 y3 y4 y5 : Option V), σ = [some (.ref a), some (.ref m), y2, y3, y4, y5] ∧ H m = none ∧ H' m = some (.lst ws) ∧ Paired (rT K rN H') ws (rowsOf (sizes.take i)))
      ⟨e0, l, _, none, none, none, none, rfl, hH, upd_same, r0⟩ (fun i σ H' _ h => (tk_of h.1).sq hT) (fun i x σ H1 hx hP => ?_) fun σ H1 hP => ?_⟩
    · obtain ⟨e1, m, ws, y2, y3, y4, y5, rfl, nm, hm, hw⟩ := hP
      obtain ⟨z, hz, rz⟩ := pd_get hp hx
      have rz : x = .int (z : Nat) := rz
      subst rz
      have zb := lo.all z (List.mem_of_getElem? hz)
      have il : i < us.length := (List.getElem?_eq_some_iff.mp hx).1
      have lw : ws.length ≤ 256 := by rw [hw.length]; have := rl i; have := p4 i (by have := hp.length; omega); omega
      refine ⟨Nat.zero_le _, fun b nb => ⟨_, rfl, m, rfl, ⟨ws, sl_of (sm_new nb _ _ hm)⟩, ?_⟩⟩
      have e2 : Same H1 (upd H1 b (.lst [])) := sm_new nb
      have hHb : H b = none := by
        cases e : H b with
        | none => rfl
        | some o =>
          have nb : H1 b = none := nb
          rw [e1 _ _ e] at nb; cases nb
      refine for_list (xs := ws) (fun j σ H' => Same H1 H' ∧ ∃ (b : Addr) (acc : List V) (y4 y5 : Option V), σ = [some (.ref a), some (.ref m), some (.int (z : Int)), some (.ref b), y4, y5] ∧ H1 b = none ∧ H' b = some (.lst acc) ∧ Paired (rT K rN H') acc (rowStep ((rowsOf (sizes.take i)).take j) z))
        ⟨e2, b, [], y4, y5, rfl, nb, upd_same, by rw [List.take_zero]; exact .nil⟩ (fun j σ H' _ h => sl_of (h.1 _ _ hm)) (fun j x σ H3 hx hP => ?_) fun σ H3 hP => ?_
      · obtain ⟨e3, b, acc, y4, y5, rfl, nb, hb, ha⟩ := hP
        obtain ⟨r, hr, rr⟩ := pd_get hw hx
        have rr3 := Up.up (R := rT K rN) (tk_of e3) rr
        have jl : j < ws.length := (List.getElem?_eq_some_iff.mp hx).1
        have la : acc.length ≤ 1024 := by
          rw [ha.length, rowStep_len]
          have h1 := List.length_take_le j (rowsOf (sizes.take i))
          exact Nat.le_trans (Nat.mul_le_mul (by omega : _ ≤ 256) zb.2) (Nat.le_refl _)
        have rlen : r.length ≤ 4 := by
          obtain ⟨h1, _⟩ := rowsOf_ok (List.mem_of_getElem? hr)
          rw [h1]
          exact Nat.le_trans (List.length_take_le ..) (by have := hp.length; omega)
        refine ⟨_, rfl, _, rfl, _, rfl, by omega, by omega, fun D nD => ?_⟩
        refine lc_pure walk_range (rT K rN) (List.range z) (by rw [List.length_range]; rfl) (fun _ => true) (fun v => r ++ [v]) nD (by show (z : Int).toNat ≤ 100000; omega) (fun _ _ => True.intro) (fun k v x H4 H5 Cy Cn hv e4 hy cy cn => ?_) (fun k H4 x H5 h => h.1 ▸ Same.refl _) fun H4 us' e4 hl4 hp4 => ?_
        · obtain ⟨rfl, rfl⟩ := hy
          have ev : v = k := by
            rw [List.getElem?_range (by have := (List.getElem?_eq_some_iff.mp hv).1; rw [List.length_range] at this; exact this)] at hv
            exact (Option.some.inj hv).symm
          subst ev
          refine ⟨rfl, _, rfl, _, rfl, szb rfl, fun t2 nt2 => ?_⟩
          have r1 : rT K rN (upd H5 t2 (.tup [.int (0 + (v : Int))])) (.ref t2) [v] := mk_rT (.cons (by show V.int (0 + (v : Int)) = V.int (v : Int); rw [Int.zero_add]) .nil) nt2
          refine cat_rT (Up.up (R := rT K rN) (tk_of (e4.trans (sm_new nt2))) rr3) r1 (by show r.length + 1 ≤ 1000000; omega) fun v2 H6 e6 r6 => ?_
          exact cy v2 H6 ((sm_new nt2).trans e6) r6 rfl
        · rw [List.filter_eq_self.mpr (fun _ _ => rfl)] at hp4
          have l4 : us'.length ≤ 4 := by rw [hp4.length, List.length_map, List.length_range]; exact zb.2
          refine ⟨b, D, acc, us', rfl, rfl, e4 _ _ hb, hl4, sz (by omega), fun p np => ?_⟩
          refine ⟨e3.trans (e4.trans (sm_new np)), p, acc ++ us', _, _, rfl, ?_, upd_same, ?_⟩
          · cases e : H1 p with
            | none => rfl
            | some o =>
              have np : H4 p = none := np
              rw [e4 _ _ (e3 _ _ e)] at np; cases np
          · rw [rowStep_take hr]
            exact Paired.snocs (up_all (tk_of (e4.trans (sm_new np))) ha) (up_all (tk_new np) hp4)
      · obtain ⟨e3, b, acc, y4, y5, rfl, nb, hb, ha⟩ := hP
        rw [hw.length, List.take_length] at ha
        refine ⟨_, rfl, b, acc, rfl, .inl (sl_of hb), fun p np => ⟨e1.trans (e3.trans (sm_new np)), p, acc, _, _, _, _, rfl, ?_, upd_same, ?_⟩⟩
        · cases e : H p with
          | none => rfl
          | some o =>
            have np : H3 p = none := np
            rw [e3 _ _ (e1 _ _ e)] at np; cases np
        · rw [rowsOf_snoc hz]
          exact up_all (tk_new np) ha
    · obtain ⟨e1, m, ws, y2, y3, y4, y5, rfl, nm, hm, hw⟩ := hP
      rw [hp.length, List.take_length] at hw
      exact ⟨_, rfl, q m ws H1 e1 nm hm hw⟩
def sp_within (K : PySem.W.Frag) : Sp := fun vs H Q _ => ∃ (v u : V) (S : Fam) (r : List Nat), vs = [v, u] ∧ rFam K H v S ∧ rT K rN H u r ∧ S.length ≤ 1000 ∧ ∀ H' (b : Bool), Same H H' → (b = true ↔ ∀ c, c < S.length → c < r.length → r.getD c 0 ∈ at' S c) → Q (.bl b) H'
theorem ok__law_within {f : Addr} {fd : FuncData} (F : Fun K "_law_within" "_law_within" s__law_within f fd) (B : BI mg) : FnOk P w K mg base CX0 1 f fd ["_law_lets_so", "_law_row_so"] (sp_within K) := by
  refine F.ok sc__law_within (fun vs H Q E h => ?_) (fun cdv A outer s H vs Q E hr h => ?_)
  · obtain ⟨v, u, S, r, rfl, _⟩ := h
    rfl
  · obtain ⟨_, _, S, r, rfl, ⟨a, us, rfl, hT, hp⟩, ⟨b, ws, rfl, hT2, hp2⟩, few, q⟩ := h
    refine ⟨_, (pss_one (ps_ret (pe_cmpR (opEq K hr.units) (pe_lc (own := [("_law_values_so", 2), ("_law_worth", 3)]) (g := gTup K 2 (gCons (gName 2) (gCons (gName 3) gNil))) rfl sc__law_within.nd (RZ.pi_zipA (by rfl) B.zip (pa_cons (pv 0) (pa_cons (pv 1) pa_nil))) (blkOk_by (own := [("_law_values_so", 2), ("_law_worth", 3)]) (N := N__law_within) (sc := (defScope s__law_within)) (by decide +kernel)) (fun _ _ _ _ _ => (pgT K rfl (pgs_cons (pg_name (i := 2) sc__law_within.nd rfl (Or.inl rfl)) (pgs_cons (pg_name (i := 3) sc__law_within.nd rfl (Or.inl rfl)) pgs_nil)))) (fun _ _ _ _ _ => pts_one (pt_cmpR (opNotIn K) (pv 3) (pv 2) (by rfl))) (fun _ _ _ _ _ => pe_int)) (pe_lst pa_nil) (nomark _)))), ?_⟩
    have lm : min us.length ws.length = min S.length r.length := by rw [hp.length, hp2.length]
    refine ⟨_, rfl, _, rfl, a, b, us, ws, rfl, .inr ⟨hT, hT2, fun D nD => ?_⟩⟩
    refine lc_pure (walk_zipT rfl) rI (List.range (min us.length ws.length)) (List.length_range) (fun c => !decide (r.getD c 0 ∈ at' S c)) (fun _ => 1) nD (by rw [lm]; omega) (fun H2 e => ⟨(tk_of e).sq hT, (tk_of e).sq hT2⟩) (fun i c x H2 H3 Cy Cn hc e hy cy cn => ?_) ypair_same fun H2 us' e hl hp' => ?_
    · obtain ⟨T, x, y, rfl, nT, rfl, hx, hy⟩ := hy
      have ec : c = i := by
        rw [List.getElem?_range (by have := (List.getElem?_eq_some_iff.mp hc).1; rw [List.length_range] at this; exact this)] at hc
        exact (Option.some.inj hc).symm
      subst ec
      obtain ⟨vs, hvs, rv⟩ := pd_get hp hx
      obtain ⟨m, hm, rm⟩ := pd_get hp2 hy
      have rm : y = .int (m : Int) := rm
      subst rm
      have k4 : Tk H (upd H2 T (.tup [x, .int (m : Int)])) := (tk_of e).trans (tk_new nT)
      obtain ⟨d, rfl, hd⟩ := rT_nat (Up.up k4 rv)
      have e1 : r.getD c 0 = m := by rw [List.getD_eq_getElem?_getD, hm]; rfl
      have e2 : at' S c = vs := by unfold at'; rw [List.getD_eq_getElem?_getD, hvs]; rfl
      rw [e1, e2] at cy cn
      refine g_pair (st_of upd_same) ⟨rfl, _, rfl, _, rfl, d, _, rfl, .inr hd, rfl, flat_nat vs, _, rfl, ?_⟩
      show if (!inV (.int (m : Int)) (nV vs)) = true then _ else _
      rw [inV_nat]
      exact iteB (fun hb => cy _ _ (Same.refl _) rfl hb) fun hb => cn _ (Same.refl _) hb
    · refine ⟨Nat.zero_le _, fun p np => eq_nil isD_I (by decide) (sl_of (by rw [upd_ne (ne_of_none hl np)]; exact hl)) (up_all (tk_new np) hp') (sl_of upd_same) (q _ _ (e.trans (sm_new np)) ?_)⟩
      rw [List.isEmpty_iff, List.map_eq_nil_iff, List.filter_eq_nil_iff]
      constructor
      · intro h c h1 h2
        have := h c (List.mem_range.mpr (by rw [lm]; omega))
        simpa using this
      · intro h c hc
        have hc := List.mem_range.mp hc
        rw [lm] at hc
        have := h c (by omega) (by omega)
        simpa using this
def sp_keeping (K : PySem.W.Frag) : Sp := fun vs H Q _ => ∃ (v u z : V) (sizes : List Nat) (sums : List Sm) (S : Fam), vs = [v, u, z] ∧ rT K rN H v sizes ∧ LOk sizes ∧ rT K (rSm K) H u sums ∧ rFam K H z S ∧ S.length = sizes.length ∧ sums.length ≤ 1000 ∧ (∀ s, s ∈ sums → VTerms sizes s.1) ∧
  ∀ p us rs H', Same H H' → H' p = some (.lst us) → Paired (rT K rN H') us rs → rs.length ≤ 1000 → (∀ r, r ∈ rs → r.length = sizes.length ∧ (∀ c, c < sizes.length → r.getD c 0 ∈ at' S c) ∧ ∀ s, s ∈ sums → s.2 ≤ wt s.1 r) → Q (.ref p) H'
theorem ok__law_keeping {f : Addr} {fd : FuncData} (F : Fun K "_law_keeping" "_law_keeping" s__law_keeping f fd) (B : BI mg) (D__law_rows : Dk P w K mg base 1 "_law_rows" ["_law_sizes_so"] (sp_rows K)) (D__law_weight : Dk P w K mg base 1 "_law_weight" ["_law_told", "_law_row_so"] (sp_weight K)) (D__law_within : Dk P w K mg base 1 "_law_within" ["_law_lets_so", "_law_row_so"] (sp_within K)) : FnOk P w K mg base CX0 2 f fd ["_law_lots_here", "_law_sums_so", "_law_lets_so"] (sp_keeping K) := by
  refine F.ok sc__law_keeping (fun vs H Q E h => ?_) (fun cdv A outer s H vs Q E hr h => ?_)
  · obtain ⟨v, u, z, sizes, sums, S, rfl, _⟩ := h
    rfl
  · obtain ⟨v, _, z, sizes, sums, S, rfl, rv, lo, ⟨b, ws, rfl, hT2, hp2⟩, rz, lS, few, vt, q⟩ := h
    have f4 := lo.few
    refine ⟨_, (pss_cons (ps_set (i := 3) sc__law_keeping.nd rfl (Or.inl rfl) (pe_lst pa_nil))
      (pss_cons (ps_for PassesOwn.never rfl (piL K (pe_callD D__law_rows hr (pa_cons (pv 0) pa_nil))) (pg_name (i := 4) sc__law_keeping.nd rfl (Or.inr rfl)) (pss_one (ps_if (PW.pt (pw_and (pt_val (pe_callD D__law_within hr (pa_cons (pv 2) (pa_cons (pv 4) pa_nil)))) (pw_and1 (pt_cmpR (opEq K hr.units) (pe_lc (own := [("_law_told", 5)]) (g := gName 5) rfl sc__law_keeping.nd (piT K (pv 1)) (blkOk_by (own := [("_law_told", 5)]) (N := N__law_keeping) (sc := (defScope s__law_keeping)) (by decide +kernel)) (fun _ _ _ _ _ => (pg_name (i := 5) sc__law_keeping.nd rfl (Or.inl rfl))) (fun _ _ _ _ _ => pts_one (pt_cmpR op_lt (pe_callD D__law_weight hr (pa_cons (pv 5) (pa_cons (pv 4) pa_nil))) (pe_ix (ixT K) (pv 5) pe_int (fun _ _ => rfl)) (nomark _))) (fun _ _ _ _ _ => pe_int)) (pe_lst pa_nil) (nomark _))))) (pss_one (ps_expr (pe_bm PySem.F.plainAttrs_list PySem.F.slot_list_append PySem.F.type_list_append mt_append (pv 3) (pa_cons (pv 4) pa_nil)))) pss_nil)))
      (pss_one (ps_ret (pv 3))))), ?_⟩
    refine ⟨Nat.zero_le _, fun l nl => ?_⟩
    have e0 : Same H (upd H l (.lst [])) := sm_new nl
    have nl : H l = none := nl
    have hl0 : (upd H l (.lst [])) l = some (.lst []) := upd_same
    generalize upd H l (.lst []) = H0 at e0 hl0
    refine ⟨_, rfl, v, sizes, rfl, Up.up (tk_of e0) rv, lo, fun p us H1 e1 np hpl hpr => ?_⟩
    have pl : l ≠ p := fun z => by rw [z, np] at hl0; cases hl0
    have lr : us.length ≤ 256 := by
      have h1 := rowsOf_len (fun z hz => (lo.all z hz).2) sizes.length
      rw [List.take_length] at h1
      have h2 : 4 ^ sizes.length ≤ 4 ^ 4 := Nat.pow_le_pow_right (n := 4) (by omega) f4
      rw [hpr.length]
      omega
    have eH1 := e0.trans e1
    refine ⟨p, rfl, ⟨us, sl_of hpl⟩, for_list (xs := us) (fun i σ H' => Same H H' ∧ Tk H1 H' ∧ H' p = some (.lst us) ∧ ∃ (acc : List V) (rs : List (List Nat)) (y4 y5 : Option V), σ = [some v, some (.ref b), some z, some (.ref l), y4, y5] ∧ H' l = some (.lst acc) ∧ Paired (rT K rN H') acc rs ∧ rs.length ≤ i ∧ ∀ r, r ∈ rs → r.length = sizes.length ∧ (∀ c, c < sizes.length → r.getD c 0 ∈ at' S c) ∧ ∀ s, s ∈ sums → s.2 ≤ wt s.1 r)
      ⟨eH1, Tk.refl _, hpl, [], [], none, none, rfl, e1 _ _ hl0, .nil, Nat.le_refl _, fun r hr => absurd hr List.not_mem_nil⟩ (fun i σ H' _ h => sl_of h.2.2.1) (fun i x σ H2 hx hP => ?_) fun σ H2 hP => ?_⟩
    · obtain ⟨e2, k2, hp3, acc, rs, y4, y5, rfl, hl2, ha, la, hall⟩ := hP
      obtain ⟨r, hr, rr⟩ := pd_get hpr hx
      have il : i < us.length := (List.getElem?_eq_some_iff.mp hx).1
      obtain ⟨r1, r2⟩ := rowsOf_ok (List.mem_of_getElem? hr)
      have rr2 := Up.up (R := rT K rN) k2 rr
      refine ⟨_, rfl, _, rfl, z, x, S, r, rfl, Up.up (R := rFam K) (tk_of e2) rz, rr2, by omega, fun H3 bb e3 hbb => ⟨bb, rfl, iteB (fun hb => ?_) fun hb => iteF ?_⟩⟩
      · have win := hbb.mp hb
        have eH3 := e2.trans e3
        refine ⟨_, rfl, b, rfl, ⟨ws, (tk_of eH3).sq hT2⟩, fun D nD => ?_⟩
        refine lc_pure walk_tup rI sums hp2.length.symm (fun s => decide (wt s.1 r < s.2)) (fun _ => 1) nD (by rw [hp2.length]; omega) (fun H4 e4 => (tk_of (eH3.trans e4)).sq hT2) (fun j sm x4 H4 H5 Cy Cn hj e4 hy cy cn => ?_) yat_same fun H4 us' e4 hl4 hp4 => ?_
        · obtain ⟨rfl, hx4⟩ := hy
          obtain ⟨s', hs', rs4⟩ := pd_get hp2 hx4
          rw [hj] at hs'
          cases hs'
          have k4 := tk_of (eH3.trans e4)
          have rs4 := Up.up (R := rSm K) k4 rs4
          have vts := vt sm (List.mem_of_getElem? hj)
          refine ⟨rfl, _, rfl, _, rfl, x4, x, sm, r, rfl, rs4, Up.up (R := rT K rN) (tk_of (e3.trans e4)) rr2, by have := vts.few; omega, fun p hp => ?_, fun H5 e5 => ?_⟩
          · obtain ⟨g1, g2⟩ := vts.at1 p hp
            exact ⟨by omega, by rw [g2]; exact r2 p.1 g1⟩
          · obtain ⟨g, u1, u2, rfl, hg, _, hu2⟩ := rs4
            have hu2 : u2 = .int sm.2 := hu2
            subst hu2
            refine ⟨_, rfl, g, [u1, .int sm.2], 1, _, rfl, rfl, (tk_of e5).sq hg, atI_nat (j := 1) rfl, _, _, rfl, rfl, _, rfl, ?_⟩
            exact iteB (fun h => cy _ _ e5 rfl h) fun h => cn _ e5 h
        · refine ⟨Nat.zero_le _, fun p2 np2 => eq_nil isD_I (by decide) (sl_of (by rw [upd_ne (ne_of_none hl4 np2)]; exact hl4)) (up_all (tk_new np2) hp4) (sl_of upd_same) ⟨_, rfl, iteB (fun hb2 => ?_) fun hb2 => ?_⟩⟩
          · have e5 := e3.trans (e4.trans (sm_new np2 (o := .lst [])))
            generalize upd H4 p2 (.lst []) = H5 at e5
            have kk : ∀ s, s ∈ sums → s.2 ≤ wt s.1 r := fun s hs => by
              rw [List.isEmpty_iff, List.map_eq_nil_iff, List.filter_eq_nil_iff] at hb2
              have := hb2 s hs
              simp at this
              exact this
            have k6 : Tk H5 (upd H5 l (.lst (acc ++ [x]))) := tk_lst (e5 _ _ hl2)
            refine ⟨_, rfl, .inl ⟨rfl, _, sl_of (e5 _ _ hl2)⟩, _, rfl, l, acc, x, rfl, rfl, e5 _ _ hl2, szl (by rw [ha.length]; omega), ?_⟩
            refine ⟨sm_mut (e2.trans e5) nl, k2.trans ((tk_of e5).trans k6), by rw [upd_ne pl.symm]; exact e5 _ _ hp3, acc ++ [x], rs ++ [r], _, _, rfl, upd_same, Paired.snocs (up_all k6 (up_all (tk_of e5) ha)) (.cons (Up.up (R := rT K rN) ((tk_of e5).trans k6) rr2) .nil), by rw [List.length_append]; show rs.length + 1 ≤ i + 1; omega, fun r' hr' => ?_⟩
            rcases List.mem_append.mp hr' with h | h
            · exact hall r' h
            · rw [List.mem_singleton.mp h]
              exact ⟨r1, fun c hc => win c (by omega) (by omega), kk⟩
          · have e5 := e3.trans (e4.trans (sm_new np2 (o := .lst [])))
            exact ⟨e2.trans e5, k2.trans (tk_of e5), e5 _ _ hp3, acc, rs, _, _, rfl, e5 _ _ hl2, up_all (tk_of e5) ha, by omega, hall⟩
      · exact ⟨e2.trans e3, k2.trans (tk_of e3), e3 _ _ hp3, acc, rs, _, _, rfl, e3 _ _ hl2, up_all (tk_of e3) ha, by omega, hall⟩
    · obtain ⟨e2, k2, hp3, acc, rs, y4, y5, rfl, hl2, ha, la, hall⟩ := hP
      exact ⟨_, rfl, q l acc rs H2 e2 hl2 ha (by omega) hall⟩
end
end K36
end
section

set_option Elab.async false
set_option linter.all false
set_option maxRecDepth 100000
set_option maxHeartbeats 4000000
/-! The law's tops, what is taken. -/
namespace K36
open PySem PySem.Spec PyProof.Rows L2
abbrev s__law_tops : Stmt := topS 46
abbrev N__law_tops : List Str := ["_law_told", "_law_lets_so", "_law_choice_so", "_law_weights_so", "_law_worth"]
theorem sc__law_tops : FnScope N__law_tops ["_law_told", "_law_lets_so"] (defScope s__law_tops) := ⟨rfl, rfl, rfl, by decide +kernel, rfl, by decide +kernel, by decide +kernel⟩
abbrev s__law_taken : Stmt := topS 47
abbrev N__law_taken : List Str := ["_law_sums_so", "_law_lets_so", "_law_choice_so", "_law_worth", "_law_told", "_law_near", "_law_own", "_law_pair_so", "_law_spot", "_law_weights_so"]
theorem sc__law_taken : FnScope N__law_taken ["_law_sums_so", "_law_lets_so", "_law_choice_so", "_law_worth"] (defScope s__law_taken) := ⟨rfl, rfl, rfl, by decide +kernel, rfl, by decide +kernel, by decide +kernel⟩
abbrev lcs__law_tops : Scope := match s__law_tops with
  | .FunctionDef (body := .Return (some (.Call _ [.ListComp _ _ sc _] _ _)) _ :: _) .. => sc
  | _ => defScope s__law_tops
/-! ### a sum without a choice -/
def nearT (ts : List (Nat × List Int)) (c : Nat) : List (Nat × List Int) := ts.filter fun p => !decide (V.int (p.1 : Int) = V.int (c : Int))
def ownT (ts : List (Nat × List Int)) (c w : Nat) : Int := ((ts.filter fun p => decide (V.int (p.1 : Int) = V.int (c : Int))).map fun p => p.2.getD w 0).sum
theorem dec_n (a c : Nat) : decide (V.int (a : Int) = V.int (c : Int)) = decide (a = c) := by
  by_cases h : a = c
  · subst h; simp
  · have : ¬ V.int (a : Int) = V.int (c : Int) := fun z => h (by have := V.int.inj z; omega)
    simp [h, this]
theorem near_none {ts : List (Nat × List Int)} {c w : Nat} (h : ∀ p, p ∈ ts → p.1 ≠ c) : nearT ts c = ts ∧ ownT ts c w = 0 := by
  constructor
  · unfold nearT
    rw [List.filter_eq_self]
    intro p hp
    rw [dec_n]
    simpa using h p hp
  · unfold ownT
    have e : (ts.filter fun p => decide (V.int (p.1 : Int) = V.int (c : Int))) = [] := by
      rw [List.filter_eq_nil_iff]
      intro p hp
      rw [dec_n]
      simpa using h p hp
    rw [e]
    rfl
theorem near_own {S : Fam} {c w : Nat} : ∀ {ts : List (Nat × List Int)} {p : Nat × List Int}, ascT ts → p ∈ ts → p.1 = c → tsum (nearT ts c) S + ownT ts c w = tsum ts S - tp p.2 (at' S p.1) + p.2.getD w 0
  | [], _, _, h, _ => absurd h List.not_mem_nil
  | q :: ts, p, ha, hp, e => by
    obtain ⟨h1, h2⟩ := List.pairwise_cons.mp ha
    by_cases hq : q.1 = c
    · have epq : p = q := ascT_eq ha hp List.mem_cons_self (e.trans hq.symm)
      subst epq
      have hn : ∀ r, r ∈ ts → r.1 ≠ c := fun r hr => by have := h1 r hr; omega
      obtain ⟨n1, n2⟩ := near_none (w := w) hn
      have e1 : nearT (p :: ts) c = nearT ts c := by
        unfold nearT
        rw [List.filter_cons, if_neg (by rw [dec_n]; simpa using hq)]
      have e2 : ownT (p :: ts) c w = p.2.getD w 0 + ownT ts c w := by
        unfold ownT
        rw [List.filter_cons, if_pos (by rw [dec_n]; simpa using hq), List.map_cons, List.sum_cons]
      rw [e1, e2, n1, n2, tsum_cons]
      omega
    · have hp' : p ∈ ts := by
        rcases List.mem_cons.mp hp with z | z
        · rw [z] at e; exact absurd e hq
        · exact z
      have ih := near_own (S := S) (w := w) h2 hp' e
      have e1 : nearT (q :: ts) c = q :: nearT ts c := by
        unfold nearT
        rw [List.filter_cons, if_pos (by rw [dec_n]; simpa using hq)]
      have e2 : ownT (q :: ts) c w = ownT ts c w := by
        unfold ownT
        rw [List.filter_cons, if_neg (by rw [dec_n]; simpa using hq)]
      rw [e1, e2, tsum_cons, tsum_cons]
      omega
/-- tops can be read -/
structure TopOk (S : Fam) (ts : List (Nat × List Int)) : Prop where
  few : ts.length ≤ 1000
  at1 : ∀ p, p ∈ ts → p.1 < S.length ∧ at' S p.1 ≠ [] ∧ (∀ v, v ∈ at' S p.1 → v < p.2.length) ∧ (at' S p.1).length ≤ 1000
theorem TopOk.near {S : Fam} {ts : List (Nat × List Int)} (h : TopOk S ts) (c : Nat) : TopOk S (nearT ts c) := ⟨Nat.le_trans (List.length_filter_le _ _) h.few, fun p hp => h.at1 p (List.mem_filter.mp hp).1⟩
section
variable {P : Program} {w : World} {K : PySem.W.Frag} {mg : Str → Option Value} {base : Heap}
def sp_tops (K : PySem.W.Frag) : Sp := fun vs H Q _ => ∃ (g b l : Addr) (x2 : V) (ws us : List V) (ts : List (Nat × List Int)) (S : Fam), vs = [.ref g, .ref l] ∧ SqT K H g [.ref b, x2] ∧ (SqT K H b ws ∨ SqL K H b ws) ∧ Paired (rP K rN (rT K rI) H) ws ts ∧ SqL K H l us ∧ Paired (rT K rN H) us S ∧ TopOk S ts ∧
  ∀ H', Same H H' → Q (.int (tsum ts S)) H'
theorem ok__law_tops {f : Addr} {fd : FuncData} (F : Fun K "_law_tops" "_law_tops" s__law_tops f fd) (B : BI mg) : FnOk P w K mg base CX0 1 f fd ["_law_told", "_law_lets_so"] (sp_tops K) := by
  refine F.ok sc__law_tops (fun vs H Q E h => ?_) (fun cdv A outer s H vs Q E hr h => ?_)
  · obtain ⟨g, b, l, x2, ws, us, ts, S, rfl, _⟩ := h
    rfl
  · obtain ⟨g, b, l, x2, ws, us, ts, S, rfl, hg, hb, hp, hl, hS, ok, q⟩ := h
    have few := ok.few
    -- one top
    have one : ∀ (i : Nat) (p : Nat × List Int) (x : V) (H2 : Hp) (Cy : V → Hp → Prop) (σ : L2.St), ts[i]? = some p → Same H H2 → ws[i]? = some x → (∀ y H4, Same H2 H4 → rI H4 y (tp p.2 (at' S p.1)) → Cy y H4) → σ = [some (.ref g), some (.ref l), none, none, none] →
        gTup K 2 (gCons (gName 2) (gCons (gName 3) gNil)) x σ H2 fun σ2 H3 => wipe σ2 [2, 3] = σ ∧ tYes σ2 H3 fun bb H4 => if bb = true then (tCB (rMx K) (tCons (tLc (iTup K (tOp (rIxL K) (tVar 1) (tVar 2))) (gName 4) tYes (tOp (rIxT K) (tVar 3) (tVar 4)) [4]) tNil)) σ2 H4 Cy else True := by
      intro i p x H2 Cy σ hz e hx cy eσ
      subst eσ
      obtain ⟨z', hz', c, y1, y2, rfl, hc, r1, r2⟩ := pd_get hp hx
      rw [hz] at hz'
      cases hz'
      have r1 : y1 = .int (p.1 : Nat) := r1
      subst r1
      have k2 := tk_of e
      obtain ⟨lt, ne, lv, l1000⟩ := ok.at1 p (List.mem_of_getElem? hz)
      obtain ⟨d, rfl, hd⟩ := rT_int (Up.up k2 r2)
      have eS : S[p.1]? = some (at' S p.1) := by unfold at'; rw [List.getD_eq_getElem?_getD, List.getElem?_eq_getElem lt]; rfl
      obtain ⟨u, hu, ru⟩ := pd_getr hS eS
      obtain ⟨a, rfl, ha⟩ := rT_nat (Up.up k2 ru)
      refine g_pair (k2.sq hc) ⟨rfl, _, rfl, _, rfl, l, us, _, _, rfl, rfl, Same.seq e hl, atI_nat hu, a, rfl, ⟨_, ha⟩, fun D nD => ?_⟩
      refine lc_pure walk_tup rI (at' S p.1) (nV_len _).symm (fun _ => true) (fun v => p.2.getD v 0) nD (by rw [nV_len]; omega) (fun H3 e3 => (tk_of e3).sq ha) (fun j v x H3 H4 Cy2 Cn hv e3 hy cy2 cn => ?_) yat_same fun H3 us' e3 hl3 hp3 => ?_
      · obtain ⟨rfl, hx⟩ := hy
        obtain ⟨v', hv', rfl⟩ := nV_at hx
        rw [hv] at hv'
        cases hv'
        have vl := lv v (List.mem_of_getElem? hv)
        have e4 : p.2[v]? = some (p.2.getD v 0) := by rw [List.getD_eq_getElem?_getD, List.getElem?_eq_getElem vl]; rfl
        exact ⟨rfl, _, rfl, _, rfl, d, _, (v : Int), _, rfl, rfl, (tk_of e3).sq hd, atI_nat (by rw [List.getElem?_map, e4]; rfl), cy2 _ _ (Same.refl _) rfl rfl⟩
      · rw [List.filter_eq_self.mpr (fun _ _ => rfl)] at hp3
        have eu := pd_ints hp3
        subst eu
        exact ⟨D, _, rfl, .inl (sl_of hl3), fun z => ne (List.map_eq_nil_iff.mp z), cy _ H3 e3 rfl⟩
    rcases hb with hb | hb
    · refine ⟨_, (pss_one (ps_ret (pe_callB (cr_sum rfl) (by rfl) B.sum (by decide +kernel) (pa_cons (pe_lc (own := [("_law_choice_so", 2), ("_law_weights_so", 3)]) (g := gTup K 2 (gCons (gName 2) (gCons (gName 3) gNil))) (tt := tYes) rfl sc__law_tops.nd (piT K (pe_ix (ixT K) (pv 0) pe_int (fun _ _ => rfl))) (blkOk_by (own := [("_law_choice_so", 2), ("_law_weights_so", 3)]) (N := N__law_tops) (sc := (defScope s__law_tops)) (by decide +kernel)) (fun _ _ _ _ _ => (pgT K rfl (pgs_cons (pg_name (i := 2) sc__law_tops.nd rfl (Or.inl rfl)) (pgs_cons (pg_name (i := 3) sc__law_tops.nd rfl (Or.inr rfl)) pgs_nil)))) (fun _ _ _ _ _ => pts_nil) (fun _ _ _ _ _ => (pe_callB (crMx K rfl hr.units) (by rfl) B.max (by decide +kernel) (pa_cons (pe_lc (own := [("_law_worth", 4)]) (g := gName 4) (tt := tYes) rfl sc__law_tops.nd (piT K (pe_ix (ixL K) (pv 1) (pv 2) (fun _ _ => rfl))) (blkOk_by (own := [("_law_worth", 4)]) (N := N__law_tops) (sc := (relS lcs__law_tops (defScope s__law_tops))) (by decide +kernel)) (fun _ _ _ _ _ => (pg_name (i := 4) sc__law_tops.nd rfl (Or.inl rfl))) (fun _ _ _ _ _ => pts_nil) (fun _ _ _ _ _ => (pe_ix (ixT K) (pv 3) (pv 4) (fun _ _ => rfl)))) pa_nil)))) pa_nil)))), ?_⟩
      refine ⟨_, rfl, g, _, 0, _, rfl, rfl, hg, atI_nat (j := 0) rfl, b, rfl, ⟨ws, hb⟩, fun D nD => ?_⟩
      refine lc_pure walk_tup rI ts hp.length.symm (fun _ => true) (fun p => tp p.2 (at' S p.1)) nD (by rw [hp.length]; omega) (fun H2 e2 => (tk_of e2).sq hb) (fun i z x H2 H3 Cy Cn hz e2 hy cy cn => ?_) yat_same fun H2 us' e2 hl hp' => ?_
      · obtain ⟨rfl, hx⟩ := hy
        exact one i z x _ Cy _ hz e2 hx (fun y H4 e4 r => cy y H4 e4 r rfl) rfl
      · rw [List.filter_eq_self.mpr (fun _ _ => rfl)] at hp'
        have eu := pd_ints hp'
        subst eu
        exact ⟨D, _, rfl, sl_of hl, q H2 e2⟩
    · refine ⟨_, (pss_one (ps_ret (pe_callB (cr_sum rfl) (by rfl) B.sum (by decide +kernel) (pa_cons (pe_lc (own := [("_law_choice_so", 2), ("_law_weights_so", 3)]) (g := gTup K 2 (gCons (gName 2) (gCons (gName 3) gNil))) (tt := tYes) rfl sc__law_tops.nd (piL K (pe_ix (ixT K) (pv 0) pe_int (fun _ _ => rfl))) (blkOk_by (own := [("_law_choice_so", 2), ("_law_weights_so", 3)]) (N := N__law_tops) (sc := (defScope s__law_tops)) (by decide +kernel)) (fun _ _ _ _ _ => (pgT K rfl (pgs_cons (pg_name (i := 2) sc__law_tops.nd rfl (Or.inl rfl)) (pgs_cons (pg_name (i := 3) sc__law_tops.nd rfl (Or.inr rfl)) pgs_nil)))) (fun _ _ _ _ _ => pts_nil) (fun _ _ _ _ _ => (pe_callB (crMx K rfl hr.units) (by rfl) B.max (by decide +kernel) (pa_cons (pe_lc (own := [("_law_worth", 4)]) (g := gName 4) (tt := tYes) rfl sc__law_tops.nd (piT K (pe_ix (ixL K) (pv 1) (pv 2) (fun _ _ => rfl))) (blkOk_by (own := [("_law_worth", 4)]) (N := N__law_tops) (sc := (relS lcs__law_tops (defScope s__law_tops))) (by decide +kernel)) (fun _ _ _ _ _ => (pg_name (i := 4) sc__law_tops.nd rfl (Or.inl rfl))) (fun _ _ _ _ _ => pts_nil) (fun _ _ _ _ _ => (pe_ix (ixT K) (pv 3) (pv 4) (fun _ _ => rfl)))) pa_nil)))) pa_nil)))), ?_⟩
      refine ⟨_, rfl, g, _, 0, _, rfl, rfl, hg, atI_nat (j := 0) rfl, b, rfl, ⟨ws, hb⟩, fun D nD => ?_⟩
      refine lc_pure walk_list rI ts hp.length.symm (fun _ => true) (fun p => tp p.2 (at' S p.1)) nD (by rw [hp.length]; omega) (fun H2 e2 => Same.seq e2 hb) (fun i z x H2 H3 Cy Cn hz e2 hy cy cn => ?_) yat_same fun H2 us' e2 hl hp' => ?_
      · obtain ⟨rfl, hx⟩ := hy
        exact one i z x _ Cy _ hz e2 hx (fun y H4 e4 r => cy y H4 e4 r rfl) rfl
      · rw [List.filter_eq_self.mpr (fun _ _ => rfl)] at hp'
        have eu := pd_ints hp'
        subst eu
        exact ⟨D, _, rfl, sl_of hl, q H2 e2⟩
def sp_taken (K : PySem.W.Frag) : Sp := fun vs H Q _ => ∃ (v : V) (l : Addr) (c wv : Nat) (us : List V) (sums : List Sm) (S : Fam), vs = [v, .ref l, .int (c : Int), .int (wv : Int)] ∧ rT K (rSm K) H v sums ∧ SqL K H l us ∧ Paired (rT K rN H) us S ∧ (∀ s, s ∈ sums → TopOk S s.1) ∧ (∀ s, s ∈ sums → ∀ p, p ∈ s.1 → p.1 = c → wv < p.2.length) ∧
  ∀ H' (b : Bool), Same H H' → (b = true → ∃ s, s ∈ sums ∧ tsum (nearT s.1 c) S + ownT s.1 c wv < s.2) → (b = false → ∀ s, s ∈ sums → s.2 ≤ tsum (nearT s.1 c) S + ownT s.1 c wv) → Q (.bl b) H'
theorem ok__law_taken {f : Addr} {fd : FuncData} (F : Fun K "_law_taken" "_law_taken" s__law_taken f fd) (B : BI mg) (D__law_tops : Dk P w K mg base 1 "_law_tops" ["_law_told", "_law_lets_so"] (sp_tops K)) : FnOk P w K mg base CX0 2 f fd ["_law_sums_so", "_law_lets_so", "_law_choice_so", "_law_worth"] (sp_taken K) := by
  refine F.ok sc__law_taken (fun vs H Q E h => ?_) (fun cdv A outer s H vs Q E hr h => ?_)
  · obtain ⟨v, l, c, wv, us, sums, S, rfl, _⟩ := h
    rfl
  · obtain ⟨_, l, c, wv, us, sums, S, rfl, ⟨a, zs, rfl, hT, hp⟩, hl, hS, ok, hw, q⟩ := h
    refine ⟨_, (pss_cons (ps_for PassesOwn.never rfl (piT K (pv 0)) (pg_name (i := 4) sc__law_taken.nd rfl (Or.inl rfl)) (pss_cons (ps_setLc (i := 5) (own := [("_law_pair_so", 7)]) (g := gName 7) rfl sc__law_taken.nd rfl rfl (sw_true rfl rfl rfl (by decide +kernel)) (piT K (pe_ix (ixT K) (pv 4) pe_int (fun _ _ => rfl))) (blkOk_by (own := [("_law_pair_so", 7)]) (N := N__law_taken) (sc := (defScope s__law_taken)) (by decide +kernel)) (fun _ _ _ _ _ => (pg_name (i := 7) sc__law_taken.nd rfl (Or.inl rfl))) (fun _ _ _ _ _ => pts_one (pt_cmpR op_ne (pe_ix (ixT K) (pv 7) pe_int (fun _ _ => rfl)) (pv 2) (nomark _))) (fun _ _ _ _ _ => (pv 7)))
      (pss_cons (ps_setLc (i := 6) (own := [("_law_spot", 8), ("_law_weights_so", 9)]) (g := gTup K 2 (gCons (gName 8) (gCons (gName 9) gNil))) rfl sc__law_taken.nd rfl rfl (sw_true rfl rfl rfl (by decide +kernel)) (piT K (pe_ix (ixT K) (pv 4) pe_int (fun _ _ => rfl))) (blkOk_by (own := [("_law_spot", 8), ("_law_weights_so", 9)]) (N := N__law_taken) (sc := (defScope s__law_taken)) (by decide +kernel)) (fun _ _ _ _ _ => (pgT K rfl (pgs_cons (pg_name (i := 8) sc__law_taken.nd rfl (Or.inl rfl)) (pgs_cons (pg_name (i := 9) sc__law_taken.nd rfl (Or.inl rfl)) pgs_nil)))) (fun _ _ _ _ _ => pts_one (pt_cmpR op_eq (pv 8) (pv 2) (nomark _))) (fun _ _ _ _ _ => (pe_ix (ixT K) (pv 9) (pv 3) (fun _ _ => rfl))))
      (pss_one (ps_if (pt_cmpR op_lt (pe_op op_add (pe_callD D__law_tops hr (pa_cons (pe_tup (pa_cons (pv 5) (pa_cons pe_int pa_nil))) (pa_cons (pv 1) pa_nil))) (pe_callB (cr_sum rfl) (by rfl) B.sum (by decide +kernel) (pa_cons (pv 6) pa_nil))) (pe_ix (ixT K) (pv 4) pe_int (fun _ _ => rfl)) (nomark _)) (pss_one (ps_ret pe_bl)) pss_nil)))))
      (pss_one (ps_ret pe_bl))), ?_⟩
    refine ⟨_, rfl, a, rfl, ⟨zs, hT⟩, for_tup (xs := zs) (fun i σ H' => Same H H' ∧ (∃ y4 y5 y6 y7 y8 y9, σ = [some (.ref a), some (.ref l), some (.int (c : Int)), some (.int (wv : Int)), y4, y5, y6, y7, y8, y9]) ∧ ∀ s, s ∈ sums.take i → s.2 ≤ tsum (nearT s.1 c) S + ownT s.1 c wv)
      ⟨Same.refl _, ⟨none, none, none, none, none, none, rfl⟩, fun s hs => by rw [List.take_zero] at hs; exact absurd hs List.not_mem_nil⟩ (fun i σ H' _ h => (tk_of h.1).sq hT) (fun i x σ H2 hx hP => ?_) fun σ H2 hP => ?_⟩
    · obtain ⟨e2, ⟨y4, y5, y6, y7, y8, y9, rfl⟩, hdone⟩ := hP
      obtain ⟨sm, hsm, g, x1, x2, rfl, hg, ⟨b, ws, rfl, hb, hpb⟩, hx2⟩ := pd_get hp hx
      have hx2 : x2 = .int sm.2 := hx2
      subst hx2
      have hmem := List.mem_of_getElem? hsm
      have tok := ok sm hmem
      have few := tok.few
      have k2 := tk_of e2
      refine ⟨_, rfl, g, _, 0, _, rfl, rfl, k2.sq hg, atI_nat (j := 0) rfl, b, rfl, ⟨ws, k2.sq hb⟩, fun D nD => ?_⟩
      refine lc_pure walk_tup (rP K rN (rT K rI)) sm.1 hpb.length.symm (fun p => !decide (V.int (p.1 : Int) = V.int (c : Int))) id nD (by rw [hpb.length]; omega) (fun H3 e3 => (tk_of (e2.trans e3)).sq hb) (fun j p x H3 H4 Cy Cn hj e3 hy cy cn => ?_) yat_same fun H3 us3 e3 hl3 hp3 => ?_
      · obtain ⟨rfl, hx⟩ := hy
        obtain ⟨p', hp', rp⟩ := pd_get hpb hx
        rw [hj] at hp'
        cases hp'
        have rp4 := Up.up (R := rP K rN (rT K rI)) (tk_of (e2.trans e3)) rp
        obtain ⟨d, z1, z2, rfl, hd, hz1, hz2⟩ := id rp4
        have hz1 : z1 = .int (p.1 : Int) := hz1
        subst hz1
        refine ⟨rfl, _, rfl, d, _, 0, _, rfl, rfl, hd, atI_nat (j := 0) rfl, _, rfl, rfl, _, rfl, iteB (fun hb => ⟨_, rfl, cy _ _ (Same.refl _) rp4 hb⟩) fun hb => cn _ (Same.refl _) hb⟩
      · rw [List.map_id] at hp3
        have e23 := e2.trans e3
        have k3 := tk_of e23
        refine ⟨_, rfl, g, _, 0, _, rfl, rfl, k3.sq hg, atI_nat (j := 0) rfl, b, rfl, ⟨ws, k3.sq hb⟩, fun D2 nD2 => ?_⟩
        refine lc_pure walk_tup rI sm.1 hpb.length.symm (fun p => decide (V.int (p.1 : Int) = V.int (c : Int))) (fun p => p.2.getD wv 0) nD2 (by rw [hpb.length]; omega) (fun H4 e4 => (tk_of (e23.trans e4)).sq hb) (fun j p x H4 H5 Cy Cn hj e4 hy cy cn => ?_) yat_same fun H4 us4 e4 hl4 hp4 => ?_
        · obtain ⟨rfl, hx⟩ := hy
          obtain ⟨p', hp', d, z1, z2, rfl, hd, hz1, hz2⟩ := pd_get hpb hx
          rw [hj] at hp'
          cases hp'
          have hz1 : z1 = .int (p.1 : Int) := hz1
          subst hz1
          have k5 := tk_of (e23.trans e4)
          obtain ⟨d2, rfl, hd2⟩ := rT_int (Up.up k5 hz2)
          refine g_pair (k5.sq hd) ⟨rfl, _, rfl, _, rfl, rfl, _, rfl, iteB (fun hb => ?_) fun hb => cn _ (Same.refl _) hb⟩
          have pc : p.1 = c := by rw [dec_n] at hb; simpa using hb
          have wl := hw sm hmem p (List.mem_of_getElem? hj) pc
          have e5 : p.2[wv]? = some (p.2.getD wv 0) := by rw [List.getD_eq_getElem?_getD, List.getElem?_eq_getElem wl]; rfl
          exact ⟨_, rfl, _, rfl, d2, _, (wv : Int), _, rfl, rfl, hd2, atI_nat (by rw [List.getElem?_map, e5]; rfl), cy _ _ (Same.refl _) rfl hb⟩
        · have eu := pd_ints hp4
          subst eu
          have e24 := e23.trans e4
          refine ⟨_, rfl, szb rfl, fun t nt => ?_⟩
          have m1 : Same H4 (upd H4 t (.tup [.ref D, .int 0])) := sm_new nt
          have ht : (upd H4 t (.tup [.ref D, .int 0])) t = some (.tup [.ref D, .int 0]) := upd_same
          generalize upd H4 t (.tup [.ref D, .int 0]) = H5 at m1 ht
          have e25 := e24.trans m1
          refine ⟨_, rfl, t, D, l, .int 0, us3, us, nearT sm.1 c, S, rfl, st_of ht, .inr (sl_of (m1 _ _ (e4 _ _ hl3))), up_all (tk_of (e4.trans m1)) hp3, Same.seq e25 hl, up_all (tk_of e25) hS, tok.near c, fun H6 e6 => ?_⟩
          refine ⟨_, rfl, D2, _, rfl, sl_of (e6 _ _ (m1 _ _ hl4)), _, _, rfl, rfl, _, rfl, g, _, 1, _, rfl, rfl, (tk_of (e25.trans e6)).sq hg, atI_nat (j := 1) rfl, _, sm.2, rfl, rfl, _, rfl, iteB (fun hb => ?_) fun hb => ?_⟩
          · have hb := of_decide_eq_true hb
            exact q H6 true (e25.trans e6) (fun _ => ⟨sm, hmem, hb⟩) fun z => nomatch z
          · have hb := of_decide_eq_false hb
            refine ⟨e25.trans e6, ⟨_, _, _, _, _, _, rfl⟩, fun s hs => ?_⟩
            rw [List.take_add_one, hsm] at hs
            rcases List.mem_append.mp hs with z | z
            · exact hdone s z
            · have z := List.mem_singleton.mp z
              subst z
              exact Int.not_lt.mp hb
    · obtain ⟨e2, ⟨y4, y5, y6, y7, y8, y9, rfl⟩, hdone⟩ := hP
      rw [hp.length, List.take_length] at hdone
      exact q H2 false e2 (fun z => nomatch z) fun _ => hdone
end
end K36
end
section

set_option Elab.async false
set_option linter.all false
set_option maxRecDepth 100000
set_option maxHeartbeats 4000000
/-! The law's own narrowing. -/
namespace K36
open PySem PySem.Spec PyProof.Rows L2
abbrev s__law_left : Stmt := topS 48
abbrev N__law_left : List Str := ["_law_lots_here", "_law_sums_so", "_law_fixed_so", "_law_lets_so", "_law_gone", "_law_told", "_law_choice_so", "_law_worth", "_law_other"]
theorem sc__law_left : FnScope N__law_left ["_law_lots_here", "_law_sums_so", "_law_fixed_so"] (defScope s__law_left) := ⟨rfl, rfl, rfl, by decide +kernel, rfl, by decide +kernel, by decide +kernel⟩
/-! ### how much is left -/
def tot (S : Fam) : Nat := (S.map List.length).sum
theorem tot_set {S : Fam} {c : Nat} {x : List Nat} (hc : c < S.length) (h : x.length < (at' S c).length) : tot (S.set c x) < tot S := by
  unfold tot
  rw [List.map_set]
  refine sum_set_lt (by rw [List.length_map]; exact hc) ?_
  have e : (S.map List.length).getD c 0 = (at' S c).length := by
    unfold at'
    rw [List.getD_eq_getElem?_getD, List.getD_eq_getElem?_getD, List.getElem?_map, List.getElem?_eq_getElem hc]
    rfl
  rw [e]
  exact h
theorem asc_len {l : List Nat} {n : Nat} (h : asc l) (hn : ∀ v, v ∈ l → v < n) : l.length ≤ n := by
  have e : l = (List.range n).filter fun v => decide (v ∈ l) := by
    refine asc_ext h ((asc_range n).sublist List.filter_sublist) fun x => ?_
    rw [List.mem_filter, List.mem_range, decide_eq_true_eq]
    exact ⟨fun hx => ⟨hn x hx, hx⟩, fun hx => hx.2⟩
  have h2 := List.length_filter_le (fun v => decide (v ∈ l)) (List.range n)
  rw [← e, List.length_range] at h2
  exact h2
/-- all but one value -/
def butV (l : List Nat) (w : Nat) : List Nat := l.filter fun v => !decide (V.int (v : Int) = V.int (w : Int))
theorem mem_butV {l : List Nat} {w v : Nat} : v ∈ butV l w ↔ v ∈ l ∧ v ≠ w := by
  unfold butV
  rw [List.mem_filter, dec_n]
  simp
theorem butV_len {w : Nat} : ∀ {l : List Nat}, w ∈ l → (butV l w).length < l.length
  | [], h => absurd h List.not_mem_nil
  | x :: l, h => by
    by_cases e : x = w
    · have e2 : butV (x :: l) w = butV l w := by
        unfold butV
        rw [List.filter_cons, if_neg (by rw [dec_n]; simpa using e)]
      rw [e2, List.length_cons]
      have := List.length_filter_le (fun v : Nat => !decide (V.int (v : Int) = V.int (w : Int))) l
      unfold butV
      omega
    · have e2 : butV (x :: l) w = x :: butV l w := by
        unfold butV
        rw [List.filter_cons, if_pos (by rw [dec_n]; simpa using e)]
      have hl : w ∈ l := by
        rcases List.mem_cons.mp h with z | z
        · exact absurd z.symm e
        · exact z
      have ih := butV_len hl
      rw [e2, List.length_cons, List.length_cons]
      omega
/-- the value w of the choice c can be by all sums -/
def CanB (sums : List Sm) (S : Fam) (c w : Nat) : Prop := ∀ s, s ∈ sums → ∀ p, p ∈ s.1 → p.1 = c → s.2 ≤ tsum s.1 S - tp p.2 (at' S p.1) + p.2.getD w 0
theorem can_of {sums : List Sm} {S : Fam} {c w : Nat} (asc : ∀ s, s ∈ sums → ascT s.1) (h : ∀ s, s ∈ sums → s.2 ≤ tsum (nearT s.1 c) S + ownT s.1 c w) : CanB sums S c w := fun s hs p hp e => by
  have h1 := h s hs
  rw [near_own (asc s hs) hp e] at h1
  exact h1
theorem mid_take {L0 S : Fam} {sums : List Sm} (m : Mid L0 sums S) (nm : ∀ s, s ∈ sums → Named L0.length s) (asc : ∀ s, s ∈ sums → ascT s.1) (ub : ∀ s, s ∈ sums → s.2 ≤ tsum s.1 S) {c w : Nat} (h : ∃ s, s ∈ sums ∧ tsum (nearT s.1 c) S + ownT s.1 c w < s.2) : Mid L0 sums (S.set c (butV (at' S c) w)) := by
  obtain ⟨s, hs, lt⟩ := h
  have ex : ∃ p, p ∈ s.1 ∧ p.1 = c := by
    by_cases e : ∃ p, p ∈ s.1 ∧ p.1 = c
    · exact e
    · obtain ⟨n1, n2⟩ := near_none (w := w) fun p hp z => e ⟨p, hp, z⟩
      rw [n1, n2] at lt
      have := ub s hs
      omega
  obtain ⟨p, hp, e⟩ := ex
  rw [near_own (asc s hs) hp e] at lt
  subst e
  refine m.take hs (nm s hs) (ub s hs) hp ((m.asc p.1).sublist List.filter_sublist) (fun v hv => (mem_butV.mp hv).1) fun v hv hk => mem_butV.mpr ⟨hv, fun z => ?_⟩
  subst z
  omega
theorem walk_revT {K : PySem.W.Frag} {a : Addr} {xs : List V} : Walk (RT.ItvT K a xs.length) xs.length (fun H => SqT K H a xs) (fun i H x H' => H' = H ∧ xs[xs.length - 1 - i]? = some x) :=
  ⟨fun i _ hi q => ⟨hi, xs, xs[xs.length - 1 - i]'(by omega), q, by simp [show xs.length - 1 - i < xs.length by omega]⟩, fun _ _ => Nat.le_refl _, fun _ _ _ _ _ q y => ⟨y.1, y.2 xs q⟩⟩
theorem pd_set {α β : Type} {F : α → β → Prop} : ∀ {xs : List α} {ys : List β} (j : Nat) {x : α} {y : β}, Paired F xs ys → F x y → Paired F (xs.set j x) (ys.set j y)
  | _, _, _, _, _, .nil, _ => .nil
  | _, _, 0, _, _, .cons _ t, h => .cons h t
  | _, _, j + 1, _, _, .cons r t, h => .cons r (pd_set j t h)
/-- what holds of the lets while values are looked at -/
structure Lk (K : PySem.W.Frag) (H H' : Hp) (l : Addr) (L0 : Fam) (sums : List Sm) (S0 : Fam) (g : Bool) (S : Fam) : Prop where
  e : Same H H'
  l : ∃ us, H' l = some (.lst us) ∧ Paired (rT K rN H') us S
  mid : Mid L0 sums S
  no : g = false → S = S0
  yes : g = true → tot S < tot S0
theorem Lk.same {K : PySem.W.Frag} {H H' H2 : Hp} {l : Addr} {L0 : Fam} {sums : List Sm} {S0 : Fam} {g : Bool} {S : Fam} (h : Lk K H H' l L0 sums S0 g S) (e : Same H' H2) : Lk K H H2 l L0 sums S0 g S := by
  obtain ⟨us, h1, h2⟩ := h.l
  exact ⟨h.e.trans e, ⟨us, e _ _ h1, up_all (tk_of e) h2⟩, h.mid, h.no, h.yes⟩
section
variable {P : Program} {w : World} {K : PySem.W.Frag} {mg : Str → Option Value} {base : Heap}
def sp_left (K : PySem.W.Frag) : Sp := fun vs H Q _ => ∃ (v u z : V) (sizes : List Nat) (sums : List Sm) (fx : List (Nat × List Nat)), vs = [v, u, z] ∧ rT K rN H v sizes ∧ LOk sizes ∧ rT K (rSm K) H u sums ∧ rT K (rFx K) H z fx ∧ VProb sizes sums fx ∧
  ∀ r x H', Same H H' → IsNar (let0 sizes fx) sums r → rNar K H' x r → Q x H'
theorem ok__law_left {f : Addr} {fd : FuncData} (F : Fun K "_law_left" "_law_left" s__law_left f fd) (B : BI mg) (D__law_lets : Dk P w K mg base 1 "_law_lets" ["_law_lots_here", "_law_fixed_so"] (sp_lets K)) (D__law_tops : Dk P w K mg base 1 "_law_tops" ["_law_told", "_law_lets_so"] (sp_tops K)) (D__law_taken : Dk P w K mg base 2 "_law_taken" ["_law_sums_so", "_law_lets_so", "_law_choice_so", "_law_worth"] (sp_taken K)) : FnOk P w K mg base CX0 3 f fd ["_law_lots_here", "_law_sums_so", "_law_fixed_so"] (sp_left K) := by
  refine F.ok sc__law_left (fun vs H Q E h => ?_) (fun cdv A outer sh H vs Q E hr h => ?_)
  · obtain ⟨v, u, z, sizes, sums, fx, rfl, _⟩ := h
    rfl
  · obtain ⟨_, _, z, sizes, sums, fx, rfl, ⟨va, vs, rfl, hT0, hp0⟩, lo, ⟨b, ws, rfl, hT2, hp2⟩, rz, vp, q⟩ := h
    -- the facts
    have f4 := lo.few
    have L0l := let0_len sizes fx
    have L0a := fun c => let0_at (fx := fx) vp.vz vp.vf.at1 c
    have nm : ∀ s, s ∈ sums → Named (let0 sizes fx).length s := fun s hs p hp => by rw [L0l]; exact ((vp.vs s hs).terms.at1 p hp).1
    have hasc : ∀ s, s ∈ sums → ascT s.1 := fun s hs => (vp.vs s hs).terms.asc
    have g4 : ∀ c, sizes.getD c 0 ≤ 4 := fun c => by
      rw [List.getD_eq_getElem?_getD]
      cases e : sizes[c]? with
      | none => exact Nat.zero_le _
      | some y => exact (lo.all y (List.mem_of_getElem? e)).2
    have low : ∀ S, Mid (let0 sizes fx) sums S → ∀ c v, v ∈ at' S c → v < sizes.getD c 0 := fun S m c v hv => (L0a c).2.1 v (m.sub _ _ hv)
    have l4 : ∀ S, Mid (let0 sizes fx) sums S → ∀ c, (at' S c).length ≤ 4 := fun S m c => Nat.le_trans (asc_len (m.asc c) (low S m c)) (g4 c)
    have tok : ∀ S, Mid (let0 sizes fx) sums S → ∀ s, s ∈ sums → TopOk S s.1 := fun S m s hs => by
      have vt := (vp.vs s hs).terms
      refine ⟨by have := vt.few; omega, fun p hp => ?_⟩
      obtain ⟨a1, a2⟩ := vt.at1 p hp
      refine ⟨by rw [m.len, L0l]; exact a1, m.ne _ (by rw [L0l]; exact a1), fun v hv => by rw [a2]; exact low S m _ v hv, by have := l4 S m p.1; omega⟩
    refine ⟨_, (pss_cons (ps_par (i := 3) (j := 4) (by rfl) sc__law_left.nd rfl rfl (by decide) rfl rfl (pa_cons (pe_callTy call_list_of (by rfl) B.list (by decide +kernel) (pa_cons (pe_callD D__law_lets hr (pa_cons (pv 0) (pa_cons (pv 2) pa_nil))) pa_nil)) (pa_cons pe_bl pa_nil)) (by rfl))
      (pss_cons (ps_while PassesOwn.never (pt_val (pv 4)) (pss_cons (ps_set (i := 4) sc__law_left.nd rfl (Or.inl rfl) pe_bl)
      (pss_cons (ps_for PassesOwn.never rfl (piT K (pv 1)) (pg_name (i := 5) sc__law_left.nd rfl (Or.inl rfl)) (pss_one (ps_if (pt_cmpR op_lt (pe_callD D__law_tops hr (pa_cons (pv 5) (pa_cons (pv 3) pa_nil))) (pe_ix (ixT K) (pv 5) pe_int (fun _ _ => rfl)) (nomark _)) (pss_one (ps_ret pe_non)) pss_nil)))
      (pss_one (ps_for PassesOwn.never rfl (pi_revR (by rfl) B.reversed (prg_1 (by rfl) B.range (pe_callB call_len_seq (by rfl) B.len (by decide +kernel) (pa_cons (pv 0) pa_nil)))) (pg_name (i := 6) sc__law_left.nd rfl (Or.inl rfl)) (pss_one (ps_for PassesOwn.never rfl (RT.pi_revA (by rfl) B.reversed (pe_ix (ixL K) (pv 3) (pv 6) (fun _ _ => rfl))) (pg_name (i := 7) sc__law_left.nd rfl (Or.inr rfl)) (pss_one (ps_if (PW.pt (pw_and (pt_not (pt_val (pv 4))) (pw_and1 (pt_val (pe_callD D__law_taken hr (pa_cons (pv 1) (pa_cons (pv 3) (pa_cons (pv 6) (pa_cons (pv 7) pa_nil))))))))) (pss_cons (ps_asg (pe_callTy call_tuple_of (by rfl) B.tuple (by decide +kernel) (pa_cons (pe_lc (own := [("_law_other", 8)]) (g := gName 8) rfl sc__law_left.nd (piT K (pe_ix (ixL K) (pv 3) (pv 6) (fun _ _ => rfl))) (blkOk_by (own := [("_law_other", 8)]) (N := N__law_left) (sc := (defScope s__law_left)) (by decide +kernel)) (fun _ _ _ _ _ => (pg_name (i := 8) sc__law_left.nd rfl (Or.inl rfl))) (fun _ _ _ _ _ => pts_one (pt_cmpR op_ne (pv 8) (pv 7) (nomark _))) (fun _ _ _ _ _ => (pv 8))) pa_nil)) (pg_sub (pv 3) (pv 6) set_list))
      (pss_one (ps_set (i := 4) sc__law_left.nd rfl (Or.inl rfl) pe_bl))) pss_nil)))))))))
      (pss_one (ps_ret (pe_callTy call_tuple_of (by rfl) B.tuple (by decide +kernel) (pa_cons (pv 3) pa_nil)))))), ?_⟩
    refine ⟨_, rfl, _, rfl, .ref va, z, sizes, fx, rfl, ⟨va, vs, rfl, hT0, hp0⟩, rz, by omega, fun y hy => by have := (lo.all y hy).2; omega, fun p hp => (vp.vf.at1 p hp).1, fun x H1 e1 r1 => ?_⟩
    obtain ⟨a, us, rfl, hT, hp⟩ := r1
    refine ⟨a, us, rfl, .inr hT, fun l nl => ⟨_, _, rfl, ?_⟩⟩
    have hHl : H l = none := by
      cases e : H l with
      | none => rfl
      | some o =>
        have nl : H1 l = none := nl
        rw [e1 _ _ e] at nl; cases nl
    have m0 : Mid (let0 sizes fx) sums (let0 sizes fx) := mid_start (fun c hc => (L0a c).2.2 (by rw [← L0l]; exact hc)) fun c => (L0a c).1
    have e2 := e1.trans (sm_new nl (o := .lst us))
    refine ⟨fun k σ H' => ∃ (S : Fam) (g : Bool) (x4 : V) (y5 y6 y7 y8 : Option V), k = 2 * tot S + g.toNat ∧ σ = [some (.ref va), some (.ref b), some z, some (.ref l), some x4, y5, y6, y7, y8] ∧ x4 = .bl g ∧ Lk K H H' l (let0 sizes fx) sums S false S ∧ (g = false → ∀ s, s ∈ sums → At1 s S),
      ⟨_, let0 sizes fx, true, _, none, none, none, none, rfl, rfl, rfl, ⟨e2, ⟨us, upd_same, up_all (tk_new nl) hp⟩, m0, fun _ => rfl, fun z => nomatch z⟩, fun z => nomatch z⟩, fun k σ H2 hW => ?_⟩
    obtain ⟨S, g, _, y5, y6, y7, y8, rfl, rfl, rfl, lk, fin⟩ := hW
    refine ⟨_, rfl, g, rfl, ?_⟩
    cases g with
    | false =>
      refine iteF ?_
      obtain ⟨us2, hl2, hp3⟩ := lk.l
      refine ⟨_, rfl, l, us2, rfl, .inl ⟨sl_of hl2, fun t nt => q (some S) _ _ (lk.e.trans (sm_new nt)) (lk.mid.done (fin rfl)) (mk_rT hp3 nt)⟩⟩
    | true =>
      refine iteT ⟨fun σ' H' => ∃ m', m' < 2 * tot S + Bool.toNat true ∧ ∃ (S : Fam) (g : Bool) (x4 : V) (y5 y6 y7 y8 : Option V), m' = 2 * tot S + g.toNat ∧ σ' = [some (.ref va), some (.ref b), some z, some (.ref l), some x4, y5, y6, y7, y8] ∧ x4 = .bl g ∧ Lk K H H' l (let0 sizes fx) sums S false S ∧ (g = false → ∀ s, s ∈ sums → At1 s S), fun σ' H' h => h, ?_⟩
      refine ⟨_, rfl, b, rfl, ⟨ws, (tk_of lk.e).sq hT2⟩, ?_⟩
      refine for_tup (xs := ws) (fun i σ H' => Lk K H H' l (let0 sizes fx) sums S false S ∧ (∃ (x4 : V) (y5 y6 y7 y8 : Option V), σ = [some (.ref va), some (.ref b), some z, some (.ref l), some x4, y5, y6, y7, y8] ∧ x4 = .bl false) ∧ ∀ s, s ∈ sums.take i → s.2 ≤ tsum s.1 S)
        ⟨lk, ⟨_, _, _, _, _, rfl, rfl⟩, fun s hs => by rw [List.take_zero] at hs; exact absurd hs List.not_mem_nil⟩ (fun i σ H' _ h => (tk_of h.1.e).sq hT2) (fun i x σ H3 hx hP => ?_) fun σ H3 hP => ?_
      · obtain ⟨lk3, ⟨_, y5, y6, y7, y8, rfl, rfl⟩, hdone⟩ := hP
        obtain ⟨us3, hl3, hp3⟩ := lk3.l
        obtain ⟨sm, hsm, g, x1, x2, rfl, hg, ⟨bb, wb, rfl, hb, hpb⟩, hx2⟩ := pd_get hp2 hx
        have hx2 : x2 = .int sm.2 := hx2
        subst hx2
        have hmem := List.mem_of_getElem? hsm
        have k3 := tk_of lk3.e
        refine ⟨_, rfl, _, rfl, g, bb, l, .int sm.2, wb, us3, sm.1, S, rfl, k3.sq hg, .inl (k3.sq hb), up_all k3 hpb, sl_of hl3, hp3, tok S lk3.mid sm hmem, fun H4 e4 => ?_⟩
        refine ⟨_, rfl, g, _, 1, _, rfl, rfl, (tk_of (lk3.e.trans e4)).sq hg, atI_nat (j := 1) rfl, _, sm.2, rfl, rfl, _, rfl, iteB (fun hb => ?_) fun hb => ?_⟩
        · have hb := of_decide_eq_true hb
          exact q none .non H4 (lk3.e.trans e4) (lk3.mid.broken hmem (nm sm hmem) hb) rfl
        · have hb := of_decide_eq_false hb
          refine ⟨lk3.same e4, ⟨_, _, _, _, _, rfl, rfl⟩, fun s hs => ?_⟩
          rw [List.take_add_one, hsm] at hs
          rcases List.mem_append.mp hs with z | z
          · exact hdone s z
          · have z := List.mem_singleton.mp z
            subst z
            exact Int.not_lt.mp hb
      · obtain ⟨lk3, ⟨_, y5, y6, y7, y8, rfl, rfl⟩, ub⟩ := hP
        rw [hp2.length, List.take_length] at ub
        refine ⟨_, rfl, va, vs, rfl, .inr ((tk_of lk3.e).sq hT0), _, rfl, by omega, by omega, by omega, ?_, ?_⟩
        · have := hp0.length; omega
        · have en : ((((vs.length : Nat) : Int) - 0).toNat) = sizes.length := by have := hp0.length; omega
          rw [en]
          refine for_it walk_rangeC (fun i σ H' => ∃ (S2 : Fam) (g : Bool), Lk K H H' l (let0 sizes fx) sums S g S2 ∧ (∃ (x4 : V) (y5 y6 y7 y8 : Option V), σ = [some (.ref va), some (.ref b), some z, some (.ref l), some x4, y5, y6, y7, y8] ∧ x4 = .bl g) ∧ (g = false → ∀ c, sizes.length - i ≤ c → c < sizes.length → ∀ v, v ∈ at' S c → CanB sums S c v))
            ⟨S, false, lk3, ⟨_, _, _, _, _, rfl, rfl⟩, fun _ c h1 h2 => absurd h2 (by omega)⟩ (fun _ _ _ _ _ => True.intro) (fun i x σ H4 H5 hi hP hy => ?_) fun σ H4 hP => ?_
          · obtain ⟨S2, g, lk4, ⟨_, y5, y6, y7, y8, rfl, rfl⟩, hcan⟩ := hP
            obtain ⟨rfl, hx⟩ := hy
            have ec : (0 : Int) + ((sizes.length : Nat) : Int) - 1 + (i : Nat) * -1 = ((sizes.length - 1 - i : Nat) : Int) := by omega
            have hx : x = .int ((sizes.length - 1 - i : Nat) : Int) := hx.trans (congrArg V.int ec)
            subst hx
            have hc : sizes.length - 1 - i < sizes.length := by omega
            have hcov : ∀ c, sizes.length - (i + 1) ≤ c → c < sizes.length → c = sizes.length - 1 - i ∨ sizes.length - i ≤ c := fun c h1 h2 => by omega
            generalize sizes.length - 1 - i = c at hc hcov
            obtain ⟨us4, hl4, hp4⟩ := lk4.l
            have lS2 : c < S2.length := by rw [lk4.mid.len, L0l]; exact hc
            have eS : S2[c]? = some (at' S2 c) := by unfold at'; rw [List.getD_eq_getElem?_getD, List.getElem?_eq_getElem lS2]; rfl
            obtain ⟨u0, hu0, ru0⟩ := pd_getr hp4 eS
            obtain ⟨d0, rfl, hd0⟩ := rT_nat ru0
            refine ⟨_, rfl, _, rfl, l, us4, (c : Int), _, rfl, rfl, sl_of hl4, atI_nat hu0, d0, nV (at' S2 c), rfl, .inr ⟨hd0, ?_⟩⟩
            have noS : g = false → S2 = S := lk4.no
            generalize hA : at' S2 c = A0 at hd0
            have memA : g = false → A0 = at' S c := fun hg => by rw [← hA, noS hg]
            refine for_it walk_revT (fun j σ H' => Tk H5 H' ∧ ∃ (S3 : Fam) (g2 : Bool), Lk K H H' l (let0 sizes fx) sums S g2 S3 ∧ (∃ (x4 : V) (y5 y7 y8 : Option V), σ = [some (.ref va), some (.ref b), some z, some (.ref l), some x4, y5, some (.int (c : Int)), y7, y8] ∧ x4 = .bl g2) ∧ (g2 = false → g = false ∧ ∀ k v, k < j → A0[A0.length - 1 - k]? = some v → CanB sums S c v))
              ⟨Tk.refl _, S2, g, lk4, ⟨_, _, _, _, rfl, rfl⟩, fun hg => ⟨hg, fun k v hk => absurd hk (by omega)⟩⟩ (fun j σ H' _ h => h.1.sq hd0) (fun j x σ H6 H7 hj hP hy => ?_) fun σ H6 hP => ?_
            · obtain ⟨k6, S3, g2, lk6, ⟨_, y5, y7, y8, rfl, rfl⟩, hc6⟩ := hP
              obtain ⟨rfl, hx⟩ := hy
              rw [nV_len] at hx hj
              obtain ⟨wv, hwv, rfl⟩ := nV_at hx
              refine ⟨_, rfl, g2, rfl, ?_⟩
              cases g2 with
              | true =>
                exact iteF (iteF ⟨k6, S3, true, lk6, ⟨_, _, _, _, rfl, rfl⟩, fun z => nomatch z⟩)
              | false =>
                obtain ⟨hg, hk⟩ := hc6 rfl
                have e3 : S3 = S := lk6.no rfl
                subst e3
                have eA := memA hg
                have wA : wv ∈ at' S3 c := by rw [← eA]; exact List.mem_of_getElem? hwv
                obtain ⟨us6, hl6, hp6⟩ := lk6.l
                have k6' := tk_of lk6.e
                refine iteT ⟨_, rfl, _, rfl, _, rfl, _, rfl, .ref b, l, c, wv, us6, sums, S3, rfl, ⟨b, ws, rfl, k6'.sq hT2, up_all k6' hp2⟩, sl_of hl6, hp6, fun s hs => tok S3 lk6.mid s hs, fun s hs p hp ep => ?_, fun H8 bb e8 hbt hbf => ⟨bb, rfl, iteB (fun hb => ?_) fun hb => ?_⟩⟩
                · rw [((vp.vs s hs).terms.at1 p hp).2, ep]
                  exact low S3 lk6.mid c wv wA
                · -- it is taken
                  have lk8 := lk6.same e8
                  obtain ⟨us8, hl8, hp8⟩ := lk8.l
                  have mid8 := mid_take lk8.mid nm hasc ub (hbt hb)
                  have lS3 : c < S3.length := by rw [lk6.mid.len, L0l]; exact hc
                  have eS3 : S3[c]? = some (at' S3 c) := by unfold at'; rw [List.getD_eq_getElem?_getD, List.getElem?_eq_getElem lS3]; rfl
                  obtain ⟨u8, hu8, ru8⟩ := pd_getr hp8 eS3
                  obtain ⟨d8, rfl, hd8⟩ := rT_nat ru8
                  refine ⟨_, rfl, _, rfl, l, us8, (c : Int), _, rfl, rfl, sl_of hl8, atI_nat hu8, d8, rfl, ⟨_, hd8⟩, fun D nD => ?_⟩
                  refine lc_pure walk_tup rN (at' S3 c) (nV_len _).symm (fun v => !decide (V.int (v : Int) = V.int (wv : Int))) id nD (by rw [nV_len]; have := l4 S3 lk6.mid c; omega) (fun H9 e9 => (tk_of e9).sq hd8) (fun m v x H9 H10 Cy Cn hv e9 hy cy cn => ?_) yat_same fun H9 us9 e9 hl9 hp9 => ?_
                  · obtain ⟨rfl, hx⟩ := hy
                    obtain ⟨v', hv', rfl⟩ := nV_at hx
                    rw [hv] at hv'
                    cases hv'
                    exact ⟨rfl, _, rfl, _, rfl, rfl, _, rfl, iteB (fun hb => ⟨_, rfl, cy _ _ (Same.refl _) rfl hb⟩) fun hb => cn _ (Same.refl _) hb⟩
                  · rw [List.map_id] at hp9
                    refine ⟨D, us9, rfl, .inl ⟨sl_of hl9, fun t nt => ?_⟩⟩
                    have rt : rT K rN (upd H9 t (.tup us9)) (.ref t) (butV (at' S3 c) wv) := mk_rT hp9 nt
                    have e10 : Same H8 (upd H9 t (.tup us9)) := e9.trans (sm_new nt)
                    generalize upd H9 t (.tup us9) = H10 at rt e10
                    have hl10 := e10 _ _ hl8
                    have k11 : Tk H10 (upd H10 l (.lst (us8.set c (.ref t)))) := tk_lst hl10
                    refine ⟨_, rfl, _, rfl, l, us8, (c : Int), c, rfl, rfl, hl10, ixN_nat (by rw [hp8.length]; exact lS3), ?_⟩
                    refine ⟨k6.trans ((tk_of (e8.trans e10)).trans k11), S3.set c (butV (at' S3 c) wv), true, ⟨sm_mut (lk6.e.trans (e8.trans e10)) hHl, ⟨_, upd_same, ?_⟩, mid8, fun z => (nomatch z), fun _ => tot_set lS3 (butV_len wA)⟩, ⟨_, _, _, _, rfl, rfl⟩, fun z => nomatch z⟩
                    exact pd_set c (up_all k11 (up_all (tk_of e10) hp8)) (Up.up (R := rT K rN) k11 rt)
                · -- it stays
                  have can := can_of hasc (hbf hb)
                  refine ⟨k6.trans (tk_of e8), S3, false, lk6.same e8, ⟨_, _, _, _, rfl, rfl⟩, fun _ => ⟨hg, fun k v hk2 hv => ?_⟩⟩
                  by_cases ek : k = j
                  · subst ek
                    rw [hwv] at hv
                    cases hv
                    exact can
                  · exact hk k v (by omega) hv
            · obtain ⟨k6, S3, g2, lk6, ⟨_, y5, y7, y8, rfl, rfl⟩, hc6⟩ := hP
              refine ⟨S3, g2, lk6, ⟨_, _, _, _, _, rfl, rfl⟩, fun hg2 c' h1 h2 v hv => ?_⟩
              obtain ⟨hg, hk⟩ := hc6 hg2
              rcases hcov c' h1 h2 with e | e
              · subst e
                have eA := memA hg
                rw [← eA] at hv
                obtain ⟨m, hm⟩ := List.mem_iff_getElem?.mp hv
                have ml := (List.getElem?_eq_some_iff.mp hm).1
                refine hk (A0.length - 1 - m) v (by rw [nV_len]; omega) ?_
                rw [show A0.length - 1 - (A0.length - 1 - m) = m by omega]
                exact hm
              · exact hcan hg c' e h2 v hv
          · obtain ⟨S2, g, lk4, ⟨_, y5, y6, y7, y8, rfl, rfl⟩, hcan⟩ := hP
            refine ⟨2 * tot S2 + g.toNat, ?_, S2, g, _, _, _, _, _, rfl, rfl, rfl, ⟨lk4.e, lk4.l, lk4.mid, fun _ => rfl, fun z => nomatch z⟩, fun hg s hs => ?_⟩
            · cases g with
              | true => have := lk4.yes rfl; simp; omega
              | false => rw [lk4.no rfl]; simp
            · have e := lk4.no hg
              subst e
              refine ⟨ub s hs, fun p hp v hv => ?_⟩
              exact hcan hg p.1 (by omega) (((vp.vs s hs).terms.at1 p hp).1) v hv s hs p hp rfl
end
end K36
end
section

set_option Elab.async false
set_option linter.all false
set_option maxRecDepth 100000
set_option maxHeartbeats 4000000
/-! The law's repr compared. -/
namespace K36
open PySem PySem.Spec PyProof.Rows L2
abbrev s__law_like : Stmt := topS 39
abbrev N__law_like : List Str := ["_law_got", "_law_due"]
theorem sc__law_like : FnScope N__law_like ["_law_got", "_law_due"] (defScope s__law_like) := ⟨rfl, rfl, rfl, by decide +kernel, rfl, by decide +kernel, by decide +kernel⟩
/-! ### data that is shown -/
def shD (n : Nat) (d : PyData) : Prop := d.showable = true ∧ d.shown.length ≤ n
theorem shD_none : shD 13 .none := by
  refine ⟨by simp only [PyData.showable], ?_⟩
  rw [PyData.shown_none]
  decide
theorem shD_nat {n : Nat} (h : n ≤ 1000000) : shD 13 (dN n) := by
  refine ⟨?_, PyData.shown_int_le ?_⟩
  · unfold dN
    simp only [PyData.showable, decide_eq_true_eq]
    rw [Int.natAbs_natCast]
    by_cases z : n = 0
    · subst z; decide
    · rw [Nat.log2_lt z]
      exact Nat.lt_of_le_of_lt h (Nat.lt_of_lt_of_le (by decide : 1000000 < 2 ^ 20) (Nat.pow_le_pow_right (by decide) (by decide)))
  · rw [Int.natAbs_natCast]
    exact Nat.lt_of_le_of_lt h (by decide)
theorem shD_all {n : Nat} : ∀ {ds : List PyData}, (∀ d, d ∈ ds → shD n d) → PyData.showableAll ds = true ∧ ((PyData.shownAll ds).map (·.length)).sum ≤ n * ds.length ∧ (PyData.shownAll ds).length = ds.length
  | [], _ => by simp [PyData.showableAll, PyData.shownAll]
  | d :: ds, h => by
    obtain ⟨h1, h2⟩ := h d List.mem_cons_self
    obtain ⟨h3, h4, h5⟩ := shD_all (ds := ds) fun e he => h e (List.mem_cons_of_mem _ he)
    refine ⟨by simp only [PyData.showableAll, h1, h3, Bool.and_self], ?_, ?_⟩
    · simp only [PyData.shownAll, List.map_cons, List.sum_cons, List.length_cons]
      rw [Nat.mul_add, Nat.mul_one]
      omega
    · simp only [PyData.shownAll, List.length_cons, h5]
theorem shD_tup {n m : Nat} {ds : List PyData} (h : ∀ d, d ∈ ds → shD n d) (hm : ds.length ≤ m) : shD (m * (n + 2) + 3) (.tuple ds) := by
  obtain ⟨h1, h2, h3⟩ := shD_all h
  refine ⟨by simp only [PyData.showable]; exact h1, ?_⟩
  simp only [PyData.shown]
  have h4 := tupleText_len_le (PyData.shownAll ds)
  have h5 : n * ds.length ≤ n * m := Nat.mul_le_mul_left n hm
  rw [Nat.mul_add, Nat.mul_comm m n]
  omega
theorem shD_lst {n m : Nat} {ds : List PyData} (h : ∀ d, d ∈ ds → shD n d) (hm : ds.length ≤ m) : shD (m * (n + 2) + 3) (.list ds) := by
  obtain ⟨h1, h2, h3⟩ := shD_all h
  refine ⟨by simp only [PyData.showable]; exact h1, ?_⟩
  simp only [PyData.shown]
  have h4 := listText_len_le (PyData.shownAll ds)
  have h5 : n * ds.length ≤ n * m := Nat.mul_le_mul_left n hm
  rw [Nat.mul_add, Nat.mul_comm m n]
  omega
theorem shD.mono {n m : Nat} {d : PyData} (h : shD n d) (hm : n ≤ m) : shD m d := ⟨h.1, Nat.le_trans h.2 hm⟩
theorem okD.mono {k j : Nat} {d : PyData} (h : okD k d) (hk : k ≤ j) : okD j d := ⟨h.1, Nat.le_trans h.2 hk⟩
/-! ### families shown -/
structure SOk (sizes : List Nat) (S : Fam) : Prop where
  len : S.length = sizes.length
  ne : ∀ c, c < sizes.length → at' S c ≠ []
  asc : ∀ c, asc (at' S c)
  lt : ∀ c v, v ∈ at' S c → v < sizes.getD c 0
theorem nar_ok {sizes : List Nat} {fx : List (Nat × List Nat)} {sums : List Sm} {S : Fam} (vz : VSizes sizes) (vf : VFx sizes fx) (h : IsNar (let0 sizes fx) sums (some S)) : SOk sizes S := by
  obtain ⟨g, s, a, _⟩ := h
  have l := let0_len sizes fx
  exact ⟨by rw [g.len, l], fun c hc => g.ne c (by rw [l]; exact hc), a, fun c v hv => (let0_at vz vf.at1 c).2.1 v (s c v hv)⟩
theorem SOk.mem {sizes : List Nat} {S : Fam} (h : SOk sizes S) (h4 : ∀ z, z ∈ sizes → z ≤ 4) {l : List Nat} (hl : l ∈ S) : l.length ≤ 4 ∧ ∀ v, v ∈ l → v ≤ 1000000 := by
  obtain ⟨c, hc⟩ := List.mem_iff_getElem?.mp hl
  have cl := (List.getElem?_eq_some_iff.mp hc).1
  have e : at' S c = l := by unfold at'; rw [List.getD_eq_getElem?_getD, hc]; rfl
  have cl' : c < sizes.length := by rw [← h.len]; exact cl
  have g4 : sizes.getD c 0 ≤ 4 := by
    have e1 : sizes.getD c 0 = sizes[c] := by simp [List.getD_eq_getElem?_getD, cl']
    rw [e1]
    exact h4 _ (List.getElem_mem cl')
  have a := h.asc c
  have b := h.lt c
  rw [e] at a b
  exact ⟨Nat.le_trans (asc_len a b) g4, fun v hv => by have := b v hv; omega⟩
abbrev dFam (S : Fam) : PyData := dT (dT dN) S
def dNar (r : Option Fam) : PyData := match r with
  | none => .none
  | some S => dFam S
theorem fam_shown {sizes : List Nat} {S : Fam} (h : SOk sizes S) (h4 : ∀ z, z ∈ sizes → z ≤ 4) (hz : sizes.length ≤ 100) : shD 6503 (dFam S) := by
  refine shD_tup (n := 63) (m := 100) (fun d hd => ?_) (by rw [List.length_map, h.len]; exact hz)
  obtain ⟨l, hl, rfl⟩ := List.mem_map.mp hd
  obtain ⟨l4, lv⟩ := h.mem h4 hl
  refine shD_tup (n := 13) (m := 4) (fun d hd => ?_) (by rw [List.length_map]; exact l4)
  obtain ⟨v, hv, rfl⟩ := List.mem_map.mp hd
  exact shD_nat (lv v hv)
section
variable {P : Program} {w : World} {K : PySem.W.Frag} {mg : Str → Option Value} {base : Heap}
theorem fam_data {H : Hp} {v : V} {S : Fam} (h : rFam K H v S) : Dp K H v (dFam S) ∧ okD 2 (dFam S) := isD_T (isD_T isD_N) H v S h
theorem nar_data {H : Hp} {v : V} {r : Option Fam} {sizes : List Nat} (h : rNar K H v r) (ok : ∀ S, r = some S → SOk sizes S) (h4 : ∀ z, z ∈ sizes → z ≤ 4) (hz : sizes.length ≤ 100) :
    Dp K H v (dNar r) ∧ okD 2 (dNar r) ∧ shD 6503 (dNar r) ∧ (dNar r = .none ∨ ∃ a, v = .ref a) := by
  cases r with
  | none =>
    have h : v = .non := h
    subst h
    exact ⟨.non, ⟨rfl, Nat.zero_le _⟩, shD_none.mono (by decide), .inl rfl⟩
  | some S =>
    obtain ⟨d1, d2⟩ := fam_data (S := S) h
    obtain ⟨a, _, e, _⟩ := id h
    exact ⟨d1, d2, fam_shown (ok S rfl) h4 hz, .inr ⟨a, e⟩⟩
def sp_like (K : PySem.W.Frag) : Sp := fun vs H Q _ => ∃ (v u : V) (d : PyData), vs = [v, u] ∧ Dp K H v d ∧ Dp K H u d ∧ okD 8 d ∧ shD 1000000 d ∧ (d = .none ∨ ∃ a, v = .ref a) ∧ (d = .none ∨ ∃ a, u = .ref a) ∧ Q (.bl true) H
theorem ok__law_like {f : Addr} {fd : FuncData} (F : Fun K "_law_like" "_law_like" s__law_like f fd) (B : BI mg) : FnG P w K mg base 1 f fd ["_law_got", "_law_due"] (sp_like K) := by
  refine Fun.okG F sc__law_like (fun vs H Q E h => ?_) (fun cdv A outer s H vs Q E hr hgd h => ?_)
  · obtain ⟨v, u, d, rfl, _⟩ := h
    rfl
  · obtain ⟨v, u, d, rfl, h1, h2, h3, h4, h5, h6, q⟩ := h
    refine ⟨_, (pss_one (ps_ret (pe_cmpR op_eq (pe_callB (cr_repr hgd hr.units) (by rfl) B.repr (by decide +kernel) (pa_cons (pv 0) pa_nil)) (pe_callB (cr_repr hgd hr.units) (by rfl) B.repr (by decide +kernel) (pa_cons (pv 1) pa_nil)) (nomark _)))), ?_⟩
    have hd := PyData.hasDict_of_canLay d h3.1
    refine ⟨_, rfl, v, d, rfl, h1, h4.1, hd, h3.2, sz h4.2, h5, _, rfl, u, d, rfl, h2, h4.1, hd, h3.2, sz h4.2, h6, ?_⟩
    refine ⟨rfl, ?_⟩
    rw [decide_eq_true rfl]
    exact q
end
end K36
end
section

set_option Elab.async false
set_option linter.all false
set_option maxRecDepth 100000
set_option maxHeartbeats 4000000
/-! One turn of the law. -/
namespace K36
open PySem PySem.Spec PyProof.Rows L2
abbrev s__law_right : Stmt := topS 49
abbrev N__law_right : List Str := ["_law_state", "_law_lots_here", "_law_sums_so", "_law_fixed_so", "_law_due", "_law_got", "_law_rows_so", "_law_more", "_law_step", "_law_row_so", "_law_near", "_law_far", "_law_worth"]
theorem sc__law_right : FnScope N__law_right ["_law_state"] (defScope s__law_right) := ⟨rfl, rfl, rfl, by decide +kernel, rfl, by decide +kernel, by decide +kernel⟩
abbrev lcs__law_right : Scope := match s__law_right with
  | .FunctionDef (body := b) .. => (match b.getLast? with
    | some (.Return (some (.Compare (.ListComp _ _ sc _) _ _ _)) _) => sc
    | _ => defScope s__law_right)
  | _ => defScope s__law_right
/-! ### a family told as fixed sets -/
def fxOf (S : Fam) : List (Nat × List Nat) := (List.range S.length).map fun c => (c, at' S c)
theorem let0_fxOf {sizes : List Nat} {S : Fam} (hl : S.length = sizes.length) : let0 sizes (fxOf S) = S := by
  have go : ∀ k, k ≤ S.length → ∀ c, at' (((List.range k).map fun c => (c, at' S c)).foldl (fun L p => L.set p.1 p.2) (sizes.map List.range)) c = if c < k then at' S c else at' (sizes.map List.range) c := by
    intro k
    induction k with
    | zero => intro _ c; simp
    | succ k ih =>
      intro hk c
      have len : (((List.range k).map fun c => (c, at' S c)).foldl (fun L p => L.set p.1 p.2) (sizes.map List.range)).length = sizes.length := let0_len sizes _
      rw [List.range_succ, List.map_append, List.foldl_append]
      show at' ((((List.range k).map fun c => (c, at' S c)).foldl (fun L p => L.set p.1 p.2) (sizes.map List.range)).set k (at' S k)) c = _
      rw [at_set, len, ih (by omega)]
      by_cases e : c = k
      · subst e
        rw [if_pos ⟨rfl, by omega⟩, if_pos (by omega)]
      · rw [if_neg (fun z => e z.1)]
        by_cases h : c < k
        · rw [if_pos h, if_pos (by omega)]
        · rw [if_neg h, if_neg (by omega)]
  refine fam_ext (by rw [let0_len, hl]) fun c => ?_
  have h := go S.length (Nat.le_refl _) c
  unfold let0 fxOf
  rw [h]
  by_cases hc : c < S.length
  · rw [if_pos hc]
  · rw [if_neg hc]
    unfold at'
    rw [List.getD_eq_getElem?_getD, List.getD_eq_getElem?_getD, List.getElem?_eq_none (by rw [List.length_map]; omega), List.getElem?_eq_none (by omega)]
theorem vfx_of {sizes : List Nat} {S : Fam} (h : SOk sizes S) (hz : sizes.length ≤ 100) (h2 : ∀ z, z ∈ sizes → z ≤ 200) : VFx sizes (fxOf S) := by
  have lf : (fxOf S).length = sizes.length := by unfold fxOf; rw [List.length_map, List.length_range, h.len]
  refine ⟨by omega, ?_, fun p hp => ?_⟩
  · unfold fxOf
    rw [List.pairwise_map]
    exact List.pairwise_lt_range
  · obtain ⟨c, hc, rfl⟩ := List.mem_map.mp hp
    have hc := List.mem_range.mp hc
    rw [h.len] at hc
    refine ⟨hc, h.ne c hc, h.asc c, h.lt c, ?_⟩
    have e1 : sizes.getD c 0 = sizes[c] := by simp [List.getD_eq_getElem?_getD, hc]
    have := h2 _ (List.getElem_mem hc)
    have := asc_len (h.asc c) (h.lt c)
    show (at' S c).length ≤ 200
    omega
theorem pd_at {α β : Type} {F : α → β → Prop} : ∀ {xs : List α} {ys : List β}, xs.length = ys.length → (∀ (j : Nat) (x : α) (y : β), xs[j]? = some x → ys[j]? = some y → F x y) → Paired F xs ys
  | [], [], _, _ => .nil
  | [], _ :: _, h, _ => by simp at h
  | _ :: _, [], h, _ => by simp at h
  | x :: xs, y :: ys, h, f => .cons (f 0 x y rfl rfl) (pd_at (by simpa using h) fun j a b h1 h2 => f (j + 1) a b (by simpa using h1) (by simpa using h2))
section
variable {P : Program} {w : World} {K : PySem.W.Frag} {mg : Str → Option Value} {base : Heap}
def sp_right : Sp := fun vs H Q _ => ∃ (s ll lc : Addr) (n : Nat), vs = [.ref s] ∧ Ld s ll lc n H ∧ n ≤ 100000 ∧ ∀ H', Ld s ll lc (n + 1000) H' → Q (.bl true) H'
theorem ok__law_right {f : Addr} {fd : FuncData} (F : Fun K "_law_right" "_law_right" s__law_right f fd) (B : BI mg) (D__law_draw : Dk P w K mg base 2 "_law_draw" ["_law_state", "_law_limit"] sp_draw) (D__law_within : Dk P w K mg base 1 "_law_within" ["_law_lets_so", "_law_row_so"] (sp_within K))
    (D__law_lets : Dk P w K mg base 1 "_law_lets" ["_law_lots_here", "_law_fixed_so"] (sp_lets K)) (D__law_lots : Dk P w K mg base 3 "_law_lots" ["_law_state"] (sp_lots K)) (D__law_sum : Dk P w K mg base 3 "_law_sum" ["_law_state", "_law_lots_here"] (sp_sum K)) (D__law_fixed : Dk P w K mg base 3 "_law_fixed" ["_law_state", "_law_lots_here"] (sp_fixed K))
    (D__law_left : Dk P w K mg base 3 "_law_left" ["_law_lots_here", "_law_sums_so", "_law_fixed_so"] (sp_left K)) (D_narrowed : Dk P w K mg base 8 "narrowed" ["sizes", "sums", "fixed"] (sp_narrowed K)) (D__law_keeping : Dk P w K mg base 2 "_law_keeping" ["_law_lots_here", "_law_sums_so", "_law_lets_so"] (sp_keeping K))
    (D__law_like : Dg P w K mg base 1 "_law_like" ["_law_got", "_law_due"] (sp_like K)) : FnG P w K mg base 9 f fd ["_law_state"] sp_right := by
  refine Fun.okG F sc__law_right (fun vs H Q E h => ?_) (fun cdv A outer sh H vs Q E hr hgd h => ?_)
  · obtain ⟨s, ll, lc, n, rfl, _⟩ := h
    rfl
  · obtain ⟨s, ll, lc, n, rfl, ld, hn, q⟩ := h
    refine ⟨_, (pss_cons (ps_set (i := 1) sc__law_right.nd rfl (Or.inr rfl) (pe_callD D__law_lots hr (pa_cons (pv 0) pa_nil)))
      (pss_cons (ps_set (i := 2) sc__law_right.nd rfl (Or.inl rfl) (pe_callTy call_tuple_of (by rfl) B.tuple (by decide +kernel) (pa_cons (pe_lc (own := [("_law_step", 8)]) (g := gName 8) (tt := tYes) rfl sc__law_right.nd (pi_range1 (by rfl) B.range (pa_cons (pe_op op_add pe_int (pe_callD D__law_draw hr (pa_cons (pv 0) (pa_cons pe_int pa_nil)))) pa_nil)) (blkOk_by (own := [("_law_step", 8)]) (N := N__law_right) (sc := (defScope s__law_right)) (by decide +kernel)) (fun _ _ _ _ _ => (pg_name (i := 8) sc__law_right.nd rfl (Or.inl rfl))) (fun _ _ _ _ _ => pts_nil) (fun _ _ _ _ _ => (pe_callD D__law_sum hr (pa_cons (pv 0) (pa_cons (pv 1) pa_nil))))) pa_nil)))
      (pss_cons (ps_set (i := 3) sc__law_right.nd rfl (Or.inl rfl) (pe_callD D__law_fixed hr (pa_cons (pv 0) (pa_cons (pv 1) pa_nil))))
      (pss_cons (ps_asg (pe_tup (pa_cons (pe_callD D__law_left hr (pa_cons (pv 1) (pa_cons (pv 2) (pa_cons (pv 3) pa_nil)))) (pa_cons (pe_callD D_narrowed hr (pa_cons (pv 1) (pa_cons (pv 2) (pa_cons (pv 3) pa_nil)))) pa_nil))) (pgT K rfl (pgs_cons (pg_name (i := 4) sc__law_right.nd rfl (Or.inl rfl)) (pgs_cons (pg_name (i := 5) sc__law_right.nd rfl (Or.inr rfl)) pgs_nil))))
      (pss_cons (ps_if (pt_not (pt_val (pe_callDG D__law_like hr hgd (pa_cons (pv 5) (pa_cons (pv 4) pa_nil))))) (pss_one (ps_ret pe_bl)) pss_nil)
      (pss_cons (ps_set (i := 6) sc__law_right.nd rfl (Or.inl rfl) (pe_callD D__law_keeping hr (pa_cons (pv 1) (pa_cons (pv 2) (pa_cons (pe_callD D__law_lets hr (pa_cons (pv 1) (pa_cons (pv 3) pa_nil))) pa_nil)))))
      (pss_cons (ps_if (pt_cmpR op_isN (pv 4) pe_non (nomark _)) (pss_one (ps_ret (pe_cmpR (opEq K hr.units) (pv 6) (pe_lst pa_nil) (nomark _)))) pss_nil)
      (pss_cons (ps_if (pt_cmpR (opNe K hr.units) (pe_lc (own := [("_law_row_so", 9)]) (g := gName 9) rfl sc__law_right.nd (piL K (pv 6)) (blkOk_by (own := [("_law_row_so", 9)]) (N := N__law_right) (sc := (defScope s__law_right)) (by decide +kernel)) (fun _ _ _ _ _ => (pg_name (i := 9) sc__law_right.nd rfl (Or.inl rfl))) (fun _ _ _ _ _ => pts_one (pt_not (pt_val (pe_callD D__law_within hr (pa_cons (pv 5) (pa_cons (pv 9) pa_nil)))))) (fun _ _ _ _ _ => pe_int)) (pe_lst pa_nil) (nomark _)) (pss_one (ps_ret pe_bl)) pss_nil)
      (pss_cons (ps_if (pt_not (pt_val (pe_callDG D__law_like hr hgd (pa_cons (pe_callD D_narrowed hr (pa_cons (pv 1) (pa_cons (pv 2) (pa_cons (pe_callTy call_tuple_of (by rfl) B.tuple (by decide +kernel) (pa_cons (pe_listEnum rfl (by rfl) B.list (by decide +kernel) (by rfl) B.enumerate (pa_cons (pv 5) pa_nil)) pa_nil)) pa_nil)))) (pa_cons (pv 4) pa_nil))))) (pss_one (ps_ret pe_bl)) pss_nil)
      (pss_cons (ps_set (i := 7) sc__law_right.nd rfl (Or.inl rfl) (pe_callD D_narrowed hr (pa_cons (pv 1) (pa_cons (pe_op (opCat K) (pv 2) (pe_tup (pa_cons (pe_callD D__law_sum hr (pa_cons (pv 0) (pa_cons (pv 1) pa_nil))) pa_nil))) (pa_cons (pv 3) pa_nil)))))
      (pss_cons (ps_if (pt_cmpR op_isN (pv 7) pe_non (nomark _)) (pss_one (ps_ret pe_bl)) pss_nil)
      (pss_one (ps_ret (pe_cmpR (opEq K hr.units) (pe_lc (own := [("_law_near", 10), ("_law_far", 11)]) (g := gTup K 2 (gCons (gName 10) (gCons (gName 11) gNil))) rfl sc__law_right.nd (RZ.pi_zipA (by rfl) B.zip (pa_cons (pv 7) (pa_cons (pv 5) pa_nil))) (blkOk_by (own := [("_law_near", 10), ("_law_far", 11)]) (N := N__law_right) (sc := (defScope s__law_right)) (by decide +kernel)) (fun _ _ _ _ _ => (pgT K rfl (pgs_cons (pg_name (i := 10) sc__law_right.nd rfl (Or.inl rfl)) (pgs_cons (pg_name (i := 11) sc__law_right.nd rfl (Or.inr rfl)) pgs_nil)))) (fun _ _ _ _ _ => pts_one (pt_cmpR (opNe K hr.units) (pe_lc (own := [("_law_worth", 12)]) (g := gName 12) rfl sc__law_right.nd (piT K (pv 10)) (blkOk_by (own := [("_law_worth", 12)]) (N := N__law_right) (sc := (relS lcs__law_right (defScope s__law_right))) (by decide +kernel)) (fun _ _ _ _ _ => (pg_name (i := 12) sc__law_right.nd rfl (Or.inl rfl))) (fun _ _ _ _ _ => pts_one (pt_cmpR (opNotIn K) (pv 12) (pv 11) (by rfl))) (fun _ _ _ _ _ => pe_int)) (pe_lst pa_nil) (nomark _))) (fun _ _ _ _ _ => pe_int)) (pe_lst pa_nil) (nomark _))))))))))))))), ?_⟩
    -- lots
    refine ⟨_, rfl, s, ll, lc, n, rfl, ld, by omega, fun v0 H1 sizes f1 l1 r1 lo => ?_⟩
    have f4 := lo.few
    have vz := lo.vz
    have z4 : ∀ z, z ∈ sizes → z ≤ 4 := fun z hz => (lo.all z hz).2
    -- sums
    refine ⟨_, rfl, s, ll, lc, _, 5, rfl, l1, by omega, by decide, by decide, fun r H2 hr2 f2 l2 => ⟨1, (r : Int), rfl, rfl, _, rfl, by omega, by omega, fun D nD => ?_⟩⟩
    have r12 := Up.up (R := rT K rN) (l1.tk f2) r1
    refine lc_fr walk_range (rSm K) (c := 30) (fun i zs => zs.length = i ∧ ∀ s, s ∈ zs → VSm sizes s) ⟨rfl, fun z hz => absurd hz List.not_mem_nil⟩ (fun i zs h => by rw [h.1]; exact Nat.le_refl _) nD (by omega) l2 (fun _ => True.intro) (fun i x H3 H4 zs Cy Cn hi kt l3 hpz hy cy cn => ?_) fun H3 us zs f3 l3 hl3 hp3 hpz => ?_
    · obtain ⟨rfl, rfl⟩ := hy
      refine ⟨rfl, _, rfl, _, rfl, s, ll, lc, _, v0, sizes, rfl, l3, by omega, Up.up (R := rT K rN) kt r12, lo, fun x H5 sm f5 l5 r5 v5 => ?_⟩
      refine cy _ sm _ f5 (l5.mono (by omega)) r5 ⟨by rw [List.length_append, hpz.1]; rfl, fun z hz => ?_⟩
      rcases List.mem_append.mp hz with h | h
      · exact hpz.2 z h
      · rw [List.mem_singleton.mp h]; exact v5
    · obtain ⟨zl, vsm⟩ := hpz
      have few : zs.length ≤ 5 := by omega
      refine ⟨D, us, rfl, .inl ⟨sl_of hl3, fun t nt => ?_⟩⟩
      have rs : rT K (rSm K) (upd H3 t (.tup us)) (.ref t) zs := mk_rT hp3 nt
      have e4 : Same H3 (upd H3 t (.tup us)) := sm_new nt
      generalize upd H3 t (.tup us) = H4 at rs e4
      have l4 := l3.same e4
      have r4 := Up.up (R := rT K rN) ((l2.tk f3).trans (tk_of e4)) r12
      -- fixed
      refine ⟨_, rfl, _, rfl, s, ll, lc, _, v0, sizes, rfl, l4, by omega, r4, lo, fun vf H5 fx f5 l5 rf vfx => ?_⟩
      have r5 := Up.up (R := rT K rN) (l4.tk f5) r4
      have rs5 := Up.up (R := rT K (rSm K)) (l4.tk f5) rs
      have vp : VProb sizes zs fx := ⟨vz, by omega, vsm, vfx⟩
      have bd : Bnd sizes zs := ⟨z4, by omega⟩
      -- due and got
      refine ⟨_, rfl, _, rfl, _, rfl, v0, .ref t, vf, sizes, zs, fx, rfl, r5, lo, rs5, rf, vp, fun res xd H6 e6 isn rxd => ?_⟩
      have k6 := tk_of e6
      refine ⟨_, rfl, _, rfl, _, rfl, v0, .ref t, vf, sizes, zs, fx, rfl, Up.up (R := rT K rN) k6 r5, Up.up (R := rT K (rSm K)) k6 rs5, Up.up (R := rT K (rFx K)) k6 rf, vp, bd, fun res2 xg H7 e7 isn2 rxg => ?_⟩
      have eres := isn2.uniq isn
      subst eres
      refine ⟨szb rfl, fun t2 nt2 => g_pair (st_of upd_same) ?_⟩
      have rxd8 : rNar K (upd H7 t2 (.tup [xd, xg])) xd res2 := Up.up (R := rNar K) (tk_of (e7.trans (sm_new nt2))) rxd
      have rxg8 : rNar K (upd H7 t2 (.tup [xd, xg])) xg res2 := Up.up (R := rNar K) (tk_new nt2) rxg
      have e58 : Same H5 (upd H7 t2 (.tup [xd, xg])) := e6.trans (e7.trans (sm_new nt2))
      generalize upd H7 t2 (.tup [xd, xg]) = H8 at rxd8 rxg8 e58
      have l8 := l5.same e58
      have k8 := tk_of e58
      have r8 := Up.up (R := rT K rN) k8 r5
      have rs8 := Up.up (R := rT K (rSm K)) k8 rs5
      have rf8 := Up.up (R := rT K (rFx K)) k8 rf
      have sok : ∀ S, res2 = some S → SOk sizes S := fun S e => nar_ok vz vfx (e ▸ isn2)
      obtain ⟨dg1, o1, s1, n1⟩ := nar_data rxg8 sok z4 vz.few
      obtain ⟨dd1, _, _, n2⟩ := nar_data rxd8 sok z4 vz.few
      refine ⟨_, rfl, _, rfl, xg, xd, dNar res2, rfl, dg1, dd1, o1.mono (by decide), s1.mono (by decide), n1, n2, true, rfl, iteF ?_⟩
      -- the rows
      refine ⟨_, rfl, _, rfl, _, rfl, _, rfl, v0, vf, sizes, fx, rfl, r8, rf8, by omega, fun z hz => by have := z4 z hz; omega, fun p hp => (vfx.at1 p hp).1, fun xl H9 e9 r9l => ?_⟩
      have k9 := tk_of e9
      refine ⟨v0, .ref t, xl, sizes, zs, let0 sizes fx, rfl, Up.up (R := rT K rN) k9 r8, lo, Up.up (R := rT K (rSm K)) k9 rs8, r9l, let0_len _ _, by omega, fun s hs => (vsm s hs).terms, fun pr wr rows H10 e10 hpr hwr rlen rall => ?_⟩
      have e810 := e9.trans e10
      have nmd : ∀ s, s ∈ zs → Named (let0 sizes fx).length s := fun s hs p hp => by rw [let0_len]; exact ((vsm s hs).terms.at1 p hp).1
      refine ⟨_, rfl, rfl, _, rfl, ?_⟩
      cases res2 with
      | none =>
        have exd : xd = .non := rxd
        subst exd
        rw [decide_eq_true rfl]
        have hrows : rows = [] := by
          cases rows with
          | nil => rfl
          | cons r0 rows =>
            obtain ⟨a1, a2, a3⟩ := rall r0 List.mem_cons_self
            exact (isn.no_row (r := r0) (by rw [let0_len]; exact a1) nmd a3 fun c hc => a2 c (by omega)).elim
        refine iteT ⟨_, rfl, Nat.zero_le _, fun p np => eq_nil (isD_T isD_N) (by decide) (sl_of (by rw [upd_ne (ne_of_none hpr np)]; exact hpr)) (up_all (R := rT K rN) (tk_new np) hwr) (sl_of upd_same) ?_⟩
        rw [hrows]
        exact q _ ((l8.same (e810.trans (sm_new np))).mono (by omega))
      | some S =>
        have so := sok S rfl
        have xdn : decide (xd = .non) = false := by
          obtain ⟨a, _, e, _⟩ := id rxd8
          subst e
          exact decide_eq_false fun z => nomatch z
        rw [xdn]
        refine iteF ?_
        have rxg10 : rFam K H10 xg S := Up.up (R := rFam K) (tk_of e810) rxg8
        -- every row lies within
        refine ⟨_, rfl, pr, rfl, ⟨wr, sl_of hpr⟩, fun D2 nD2 => ?_⟩
        refine lc_none walk_list nD2 (fun H11 e11 => sl_of (e11 _ _ hpr)) (fun i x H11 H12 Cy Cn hi e11 hy cn => ?_) yat_same fun H11 e11 hl11 => ?_
        · obtain ⟨rfl, hx⟩ := hy
          obtain ⟨r0, hr0, rr0⟩ := pd_get hwr hx
          obtain ⟨a1, a2, a3⟩ := rall r0 (List.mem_of_getElem? hr0)
          have k12 := tk_of e11
          refine ⟨rfl, _, rfl, _, rfl, xg, x, S, r0, rfl, Up.up (R := rFam K) k12 rxg10, Up.up (R := rT K rN) k12 rr0, by rw [so.len]; omega, fun H13 bb e13 hbb => ⟨bb, rfl, ?_⟩⟩
          have hb : bb = true := hbb.mpr fun c h1 h2 => isn.row (r := r0) (by rw [let0_len]; exact a1) nmd a3 (fun c hc => a2 c (by omega)) h2
          rw [hb]
          exact iteF (cn _ e13)
        · refine ⟨Nat.zero_le _, fun p np => ne_nil isD_N (by decide) (sl_of (by rw [upd_ne (ne_of_none hl11 np)]; exact hl11)) (.nil) (sl_of upd_same) ⟨_, rfl, iteF ?_⟩⟩
          have e1012 : Same H10 (upd H11 p (.lst [])) := e11.trans (sm_new np)
          generalize upd H11 p (.lst []) = H12 at e1012
          have e812 := e810.trans e1012
          have k12 := tk_of e812
          -- handed in again
          have rxg12 : rFam K H12 xg S := Up.up (R := rFam K) k12 rxg8
          have rxd12 : rNar K H12 xd (some S) := Up.up (R := rNar K) k12 rxd8
          obtain ⟨ga, gus, rfl, hga, hgp⟩ := rxg12
          refine ⟨_, rfl, _, rfl, _, rfl, ga, gus, rfl, hga, fun H13 pe ts e13 npe hpe tlen tall => ?_⟩
          have e13 : Same H12 H13 := e13
          refine ⟨pe, _, rfl, .inl ⟨sl_of hpe, fun t3 nt3 => ?_⟩⟩
          have hfx : Paired (rFx K H13) (ts.map V.ref) (fxOf S) := by
            have lg := hgp.length
            refine pd_at (by rw [List.length_map, tlen, lg]; unfold fxOf; rw [List.length_map, List.length_range]) fun j x y hx hy => ?_
            rw [List.getElem?_map] at hx
            obtain ⟨tj, htj, ex⟩ := Option.map_eq_some_iff.mp hx
            subst ex
            have jl : j < S.length := by
              have := (List.getElem?_eq_some_iff.mp htj).1
              omega
            have ey : y = (j, at' S j) := by
              unfold fxOf at hy
              rw [List.getElem?_map, List.getElem?_range jl] at hy
              exact (Option.some.inj hy).symm
            subst ey
            have eS : S[j]? = some (at' S j) := by unfold at'; rw [List.getD_eq_getElem?_getD, List.getElem?_eq_getElem jl]; rfl
            obtain ⟨xj, hxj, rj⟩ := pd_getr hgp eS
            exact ⟨tj, _, _, rfl, st_of (tall j tj xj htj hxj), rfl, Up.up (R := rT K rN) (tk_of e13) rj⟩
          have rfe : rT K (rFx K) (upd H13 t3 (.tup (ts.map V.ref))) (.ref t3) (fxOf S) := mk_rT hfx nt3
          have e814 : Same H8 (upd H13 t3 (.tup (ts.map V.ref))) := e812.trans (e13.trans (sm_new nt3))
          have e1214 : Same H12 (upd H13 t3 (.tup (ts.map V.ref))) := e13.trans (sm_new nt3)
          generalize upd H13 t3 (.tup (ts.map V.ref)) = H14 at rfe e814 e1214
          have k14 := tk_of e814
          have vfe := vfx_of so vz.few fun z hz => by have := z4 z hz; omega
          refine ⟨v0, .ref t, .ref t3, sizes, zs, fxOf S, rfl, Up.up (R := rT K rN) k14 r8, Up.up (R := rT K (rSm K)) k14 rs8, rfe, ⟨vz, by omega, vsm, vfe⟩, bd, fun res3 x3 H15 e15 isn3 rx3 => ?_⟩
          rw [let0_fxOf so.len] at isn3
          have er3 := isn3.uniq isn.again
          subst er3
          have e1215 := e1214.trans e15
          obtain ⟨d3, o3, s3, n3⟩ := nar_data rx3 sok z4 vz.few
          obtain ⟨d4, _, _, n4⟩ := nar_data (Up.up (R := rNar K) (tk_of e1215) rxd12) sok z4 vz.few
          refine ⟨_, rfl, x3, xd, dNar (some S), rfl, d3, d4, o3.mono (by decide), s3.mono (by decide), n3, n4, true, rfl, iteF ?_⟩
          -- one sum more
          have e815 := e814.trans e15
          have l15 := l8.same e815
          have r15 := Up.up (R := rT K rN) (tk_of e815) r8
          refine ⟨_, rfl, _, rfl, _, rfl, _, rfl, s, ll, lc, _, v0, sizes, rfl, l15, by omega, r15, lo, fun xs H16 sm f16 l16 r16 v16 => ⟨szb rfl, fun t4 nt4 => ?_⟩⟩
          have rone : rT K (rSm K) (upd H16 t4 (.tup [xs])) (.ref t4) [sm] := mk_rT (.cons r16 .nil) nt4
          have kk : Tk H8 (upd H16 t4 (.tup [xs])) := (tk_of e815).trans ((l15.tk f16).trans (tk_new nt4))
          have l17 := l16.same (sm_new nt4 (o := .tup [xs]))
          generalize upd H16 t4 (.tup [xs]) = H17 at rone kk l17
          refine cat_rT (Up.up (R := rT K (rSm K)) kk rs8) rone (by show zs.length + 1 ≤ 1000000; omega) fun vm H18 e18 r18 => ?_
          have k18 := kk.trans (tk_of e18)
          have l18 := l17.same e18
          refine ⟨_, rfl, v0, vm, vf, sizes, zs ++ [sm], fx, rfl, Up.up (R := rT K rN) k18 r8, r18, Up.up (R := rT K (rFx K)) k18 rf8, ⟨vz, by rw [List.length_append]; show zs.length + 1 ≤ 40000; omega, fun s hs => ?_, vfx⟩, ⟨z4, by rw [List.length_append]; show zs.length + 1 ≤ 100; omega⟩, fun res4 x4 H19 e19 isn4 rx4 => ?_⟩
          · rcases List.mem_append.mp hs with h | h
            · exact vsm s h
            · rw [List.mem_singleton.mp h]; exact v16
          · have l19 := l18.same e19
            refine ⟨_, rfl, rfl, _, rfl, ?_⟩
            cases res4 with
            | none =>
              have ex4 : x4 = .non := rx4
              subst ex4
              rw [decide_eq_true rfl]
              exact iteT (q _ (l19.mono (by omega)))
            | some T =>
              obtain ⟨ma, mus, rfl, hma, hmp⟩ := rx4
              rw [show decide (V.ref ma = V.non) = false from decide_eq_false fun z => nomatch z]
              have sub := isn.more isn4
              have rg : rFam K H19 (.ref ga) S := Up.up (R := rFam K) (k18.trans (tk_of e19)) rxg8
              obtain ⟨ga2, gus2, eg, hg2, hgp2⟩ := rg
              cases eg
              refine iteF ⟨_, rfl, _, rfl, ma, ga, mus, gus2, rfl, .inr ⟨hma, hg2, fun D3 nD3 => ?_⟩⟩
              refine lc_none (walk_zipT rfl) nD3 (fun H20 e20 => ⟨(tk_of e20).sq hma, (tk_of e20).sq hg2⟩) (fun i x H20 H21 Cy Cn hi e20 hy cn => ?_) ypair_same fun H20 e20 hl20 => ?_
              · obtain ⟨Tp, x, y, rfl, nTp, rfl, hx, hy⟩ := hy
                obtain ⟨av, hav, ra⟩ := pd_get hmp hx
                obtain ⟨bv, hbv, rb⟩ := pd_get hgp2 hy
                have ea : at' T i = av := by unfold at'; rw [List.getD_eq_getElem?_getD, hav]; rfl
                have eb : at' S i = bv := by unfold at'; rw [List.getD_eq_getElem?_getD, hbv]; rfl
                have k21 : Tk H19 (upd H20 Tp (.tup [x, y])) := (tk_of e20).trans (tk_new nTp)
                have e21 : (upd H20 Tp (.tup [x, y])) Tp = some (.tup [x, y]) := upd_same
                obtain ⟨da, rfl, hda⟩ := rT_nat (Up.up (R := rT K rN) k21 ra)
                obtain ⟨db, rfl, hdb⟩ := rT_nat (Up.up (R := rT K rN) k21 rb)
                refine g_pair (st_of e21) ⟨rfl, _, rfl, da, rfl, ⟨_, hda⟩, fun D4 nD4 => ?_⟩
                refine lc_none walk_tup nD4 (fun H22 e22 => (tk_of e22).sq hda) (fun j x H22 H23 Cy2 Cn2 hj e22 hy2 cn2 => ?_) yat_same fun H22 e22 hl22 => ?_
                · obtain ⟨rfl, hx2⟩ := hy2
                  obtain ⟨wv, hwv, rfl⟩ := nV_at hx2
                  refine ⟨rfl, _, rfl, _, rfl, db, _, rfl, .inr ((tk_of e22).sq hdb), rfl, flat_nat bv, _, rfl, ?_⟩
                  have inb : wv ∈ bv := by
                    rw [← eb]
                    refine sub i wv ?_
                    rw [ea]
                    exact List.mem_of_getElem? hwv
                  show if (!inV (.int (wv : Int)) (nV bv)) = true then _ else _
                  rw [inV_nat, decide_eq_true inb]
                  exact iteF (cn2 _ (Same.refl _))
                · refine ⟨Nat.zero_le _, fun p np => ne_nil isD_N (by decide) (sl_of (by rw [upd_ne (ne_of_none hl22 np)]; exact hl22)) .nil (sl_of upd_same) ⟨_, rfl, iteF (cn _ (e22.trans (sm_new np)))⟩⟩
              · refine ⟨Nat.zero_le _, fun p np => eq_nil isD_N (by decide) (sl_of (by rw [upd_ne (ne_of_none hl20 np)]; exact hl20)) .nil (sl_of upd_same) ?_⟩
                exact q _ ((l19.same (e20.trans (sm_new np))).mono (by omega))
end
end K36
end
section

set_option Elab.async false
set_option linter.all false
set_option maxRecDepth 100000
set_option maxHeartbeats 4000000
/-! What the law knows by hand; the law. -/
namespace K36
open PySem PySem.Spec PyProof.Rows L2
abbrev s__law_by_hand : Stmt := topS 50
abbrev N__law_by_hand : List Str := ["_law_chain", "_law_sums_so", "_law_got", "_law_due", "_law_spot", "_law_pair_so"]
theorem sc__law_by_hand : FnScope N__law_by_hand [] (defScope s__law_by_hand) := ⟨rfl, rfl, rfl, by decide +kernel, rfl, by decide +kernel, by decide +kernel⟩
abbrev s_law : Stmt := topS 51
abbrev N_law : List Str := ["_law_script", "_law_state", "_law_turn"]
theorem sc_law : FnScope N_law ["_law_script"] (defScope s_law) := ⟨rfl, rfl, rfl, by decide +kernel, rfl, by decide +kernel, by decide +kernel⟩
/-! ### the chain -/
def linkT (i : Nat) : List (Nat × List Int) := [(i, [1, 0]), (i + 1, [0, 1])]
def chainS : List Sm := (List.range 99).map fun i => (linkT i, 1)
theorem chain_mem {s : Sm} (h : s ∈ chainS) : ∃ i, i < 99 ∧ s = (linkT i, 1) := by
  obtain ⟨i, hi, e⟩ := List.mem_map.mp h
  exact ⟨i, List.mem_range.mp hi, e.symm⟩
theorem chain_in {i : Nat} (h : i < 99) : (linkT i, (1 : Int)) ∈ chainS := List.mem_map.mpr ⟨i, List.mem_range.mpr h, rfl⟩
theorem link_sum (i : Nat) (S : Fam) : tsum (linkT i) S = tp [1, 0] (at' S i) + tp [0, 1] (at' S (i + 1)) := by
  unfold linkT
  rw [tsum_cons, tsum_cons, tsum_nil]
  show tp [1, 0] (at' S i) + (tp [0, 1] (at' S (i + 1)) + 0) = _
  omega
theorem at_rep {x : List Nat} {n c : Nat} : at' (List.replicate n x) c = if c < n then x else [] := by
  unfold at'
  rw [List.getD_eq_getElem?_getD, List.getElem?_replicate]
  split <;> rfl
theorem rep_d {n c x : Nat} (h : c < n) : (List.replicate n x).getD c 0 = x := by
  rw [List.getD_eq_getElem?_getD, List.getElem?_replicate, if_pos h]
  rfl
abbrev two : List Nat := List.replicate 100 2
theorem two_z : VSizes two := ⟨by rw [List.length_replicate]; exact Nat.le_refl _, fun z hz => by rw [(List.mem_replicate.mp hz).2]; omega⟩
theorem chain_ok : ∀ s, s ∈ chainS → VSm two s := fun s hs => by
  obtain ⟨i, hi, rfl⟩ := chain_mem hs
  refine ⟨⟨by show 2 ≤ 100; omega, ?_, fun p hp => ?_⟩, fun p hp => ?_, .inl (Int.le_refl 1)⟩
  · refine List.pairwise_cons.mpr ⟨fun p hp => ?_, List.pairwise_singleton _ _⟩
    rw [List.mem_singleton.mp hp]
    exact Nat.lt_succ_self i
  · rw [List.length_replicate]
    rcases List.mem_cons.mp hp with e | e
    · subst e; exact ⟨by show i < 100; omega, (rep_d (by show i < 100; omega)).symm⟩
    · have e := List.mem_singleton.mp e
      subst e; exact ⟨by show i + 1 < 100; omega, (rep_d (by show i + 1 < 100; omega)).symm⟩
  · rcases List.mem_cons.mp hp with e | e
    · subst e
      show (0 : Int) ∈ ([1, 0] : List Int) ∧ (∀ w, w ∈ ([1, 0] : List Int) → 0 ≤ w) ∧ ∃ w, w ∈ ([1, 0] : List Int) ∧ 0 < w
      exact ⟨by decide, by decide, 1, by decide, by decide⟩
    · have e := List.mem_singleton.mp e
      subst e
      show (0 : Int) ∈ ([0, 1] : List Int) ∧ (∀ w, w ∈ ([0, 1] : List Int) → 0 ≤ w) ∧ ∃ w, w ∈ ([0, 1] : List Int) ∧ 0 < w
      exact ⟨by decide, by decide, 1, by decide, by decide⟩
theorem chain_bnd : Bnd two chainS := ⟨fun z hz => by rw [(List.mem_replicate.mp hz).2]; omega, by unfold chainS; rw [List.length_map, List.length_range]; omega⟩
theorem tp_ones {vs : List Nat} (ne : vs ≠ []) (h : ∀ v, v ∈ vs → v = 1) : tp [1, 0] vs = 0 := by
  unfold tp
  have h1 : (vs.map fun v => ([1, 0] : List Int).getD v 0) ≠ [] := fun e => ne (List.map_eq_nil_iff.mp e)
  obtain ⟨v, hv, e⟩ := List.mem_map.mp (mx_mem h1)
  rw [← e, h v hv]
  rfl
theorem one_of {v : Nat} (h : (1 : Int) ≤ ([0, 1] : List Int).getD v 0) : v = 1 := by
  match v with
  | 0 => exact absurd h (by decide)
  | 1 => rfl
  | v + 2 => exact absurd h (by show ¬ (1 : Int) ≤ 0; decide)
/-- what one end tells, goes on to the other -/
theorem push {G : Fam} (g : Good 100 chainS G) (h0 : ∀ v, v ∈ at' G 0 → v = 1) : ∀ c, c < 100 → ∀ v, v ∈ at' G c → v = 1
  | 0, _, v, hv => h0 v hv
  | c + 1, hc, v, hv => by
    have ih := push g h0 c (by omega)
    have t := tp_ones (g.ne c (by omega)) ih
    have a := (g.all _ (chain_in (i := c) (by omega))).can (c + 1, [0, 1]) (by unfold linkT; simp) v hv
    have e := link_sum c G
    have a : (1 : Int) ≤ tsum (linkT c) G - tp [0, 1] (at' G (c + 1)) + ([0, 1] : List Int).getD v 0 := a
    exact one_of (by omega)
theorem at_out {G : Fam} {c v : Nat} (h : v ∈ at' G c) : c < G.length := by
  rcases Nat.lt_or_ge c G.length with z | z
  · exact z
  · unfold at' at h
    rw [List.getD_eq_getElem?_getD, List.getElem?_eq_none z] at h
    exact absurd h List.not_mem_nil
def fxa : List (Nat × List Nat) := [(0, [1])]
def fxb : List (Nat × List Nat) := [(0, [1]), (99, [0])]
theorem two_map : two.map List.range = List.replicate 100 [0, 1] := by
  rw [List.map_replicate]
  rfl
theorem la_at (c : Nat) : at' (let0 two fxa) c = if c = 0 then [1] else if c < 100 then [0, 1] else [] := by
  have e : let0 two fxa = (two.map List.range).set 0 [1] := rfl
  rw [e, at_set, two_map, at_rep, List.length_replicate]
  by_cases h : c = 0
  · rw [if_pos ⟨h, by omega⟩, if_pos h]
  · rw [if_neg (fun z => h z.1), if_neg h]
theorem lb_at (c : Nat) : at' (let0 two fxb) c = if c = 99 then [0] else if c = 0 then [1] else if c < 100 then [0, 1] else [] := by
  have e : let0 two fxb = (let0 two fxa).set 99 [0] := rfl
  have l : (let0 two fxa).length = 100 := by rw [let0_len, List.length_replicate]
  rw [e, at_set, l, la_at]
  by_cases h : c = 99
  · rw [if_pos ⟨h, by omega⟩, if_pos h]
  · rw [if_neg (fun z => h z.1), if_neg h]
theorem l100 (fx : List (Nat × List Nat)) : (let0 two fx).length = 100 := by rw [let0_len, List.length_replicate]
abbrev resA : Fam := List.replicate 100 [1]
abbrev resC : Fam := List.replicate 100 [0, 1]
theorem nar_a : IsNar (let0 two fxa) chainS (some resA) := by
  refine ⟨?_, fun c v hv => ?_, fun c => ?_, fun G g hs c v hv => ?_⟩
  · rw [l100]
    refine ⟨List.length_replicate, fun c hc => by rw [at_rep, if_pos hc]; exact List.cons_ne_nil _ _, fun s hs => ?_⟩
    obtain ⟨i, hi, rfl⟩ := chain_mem hs
    have e1 : at' resA i = [1] := by rw [at_rep, if_pos (by omega)]
    have e2 : at' resA (i + 1) = [1] := by rw [at_rep, if_pos (by omega)]
    have e : tsum (linkT i) resA = 1 := by rw [link_sum, e1, e2]; rfl
    refine ⟨by rw [e]; exact Int.le_refl 1, fun p hp v hv => ?_⟩
    show 1 ≤ tsum (linkT i) resA - _ + _
    rw [e]
    rcases List.mem_cons.mp hp with z | z
    · subst z
      have hv : v ∈ at' resA i := hv
      rw [e1] at hv
      rw [List.mem_singleton.mp hv]
      show (1 : Int) ≤ 1 - tp [1, 0] (at' resA i) + 0
      rw [e1]
      decide
    · have z := List.mem_singleton.mp z
      subst z
      have hv : v ∈ at' resA (i + 1) := hv
      rw [e2] at hv
      rw [List.mem_singleton.mp hv]
      show (1 : Int) ≤ 1 - tp [0, 1] (at' resA (i + 1)) + 1
      rw [e2]
      decide
  · rw [at_rep] at hv
    split at hv
    · rename_i hc
      rw [la_at, List.mem_singleton.mp hv]
      by_cases z : c = 0
      · rw [if_pos z]; exact List.mem_singleton.mpr rfl
      · rw [if_neg z, if_pos hc]; decide
    · exact absurd hv List.not_mem_nil
  · rw [at_rep]
    split
    · exact List.pairwise_singleton _ _
    · exact .nil
  · rw [l100] at g
    have hc := at_out hv
    rw [g.len] at hc
    have e := push g (fun v hv => by
      have h := hs 0 v hv
      rw [la_at, if_pos rfl] at h
      exact List.mem_singleton.mp h) c hc v hv
    rw [at_rep, if_pos hc, e]
    exact List.mem_singleton.mpr rfl
theorem nar_b : IsNar (let0 two fxb) chainS none := fun G g hs => by
  rw [l100] at g
  have p := push g fun v hv => by
    have h := hs 0 v hv
    rw [lb_at, if_neg (by decide), if_pos rfl] at h
    exact List.mem_singleton.mp h
  have ne := g.ne 99 (by omega)
  obtain ⟨v, r, e⟩ := List.exists_cons_of_ne_nil ne
  have hv : v ∈ at' G 99 := by rw [e]; exact List.mem_cons_self
  have h1 := p 99 (by omega) v hv
  have h2 := hs 99 v hv
  rw [lb_at, if_pos rfl] at h2
  have h2 := List.mem_singleton.mp h2
  omega
theorem nar_c : IsNar (let0 two []) chainS (some resC) := by
  have e0 : let0 two [] = resC := two_map
  rw [e0]
  refine ⟨?_, Sub.refl _, fun c => ?_, fun G g hs => hs⟩
  · rw [List.length_replicate]
    refine ⟨List.length_replicate, fun c hc => by rw [at_rep, if_pos hc]; exact List.cons_ne_nil _ _, fun s hs => ?_⟩
    obtain ⟨i, hi, rfl⟩ := chain_mem hs
    have e1 : at' resC i = [0, 1] := by rw [at_rep, if_pos (by omega)]
    have e2 : at' resC (i + 1) = [0, 1] := by rw [at_rep, if_pos (by omega)]
    have e : tsum (linkT i) resC = 2 := by rw [link_sum, e1, e2]; rfl
    have nn : ∀ (ws : List Int) (v : Nat), (∀ w, w ∈ ws → 0 ≤ w) → 0 ≤ ws.getD v 0 := fun ws v h => by
      rw [List.getD_eq_getElem?_getD]
      cases hh : ws[v]? with
      | none => exact Int.le_refl 0
      | some w => exact h w (List.mem_of_getElem? hh)
    refine ⟨by rw [e]; show (1 : Int) ≤ 2; decide, fun p hp v hv => ?_⟩
    show 1 ≤ tsum (linkT i) resC - _ + _
    rw [e]
    rcases List.mem_cons.mp hp with z | z
    · subst z
      have := nn [1, 0] v (by decide)
      show (1 : Int) ≤ 2 - tp [1, 0] (at' resC i) + ([1, 0] : List Int).getD v 0
      rw [e1]
      have t : tp [1, 0] [0, 1] = 1 := rfl
      rw [t]
      omega
    · have z := List.mem_singleton.mp z
      subst z
      have := nn [0, 1] v (by decide)
      show (1 : Int) ≤ 2 - tp [0, 1] (at' resC (i + 1)) + ([0, 1] : List Int).getD v 0
      rw [e2]
      have t : tp [0, 1] [0, 1] = 1 := rfl
      rw [t]
      omega
  · rw [at_rep]
    split
    · exact asc_range 2
    · exact .nil
theorem nar_d : IsNar (let0 [] []) [] (some []) := ⟨⟨rfl, fun c hc => absurd hc (Nat.not_lt_zero c), fun s hs => absurd hs List.not_mem_nil⟩, Sub.refl _, fun c => by show asc (at' [] c); unfold at'; simp, fun G g hs => hs⟩
theorem nar_e : IsNar (let0 [1, 3] []) [([], 0)] (some [[0], [0, 1, 2]]) := by
  have e0 : let0 [1, 3] [] = [[0], [0, 1, 2]] := rfl
  rw [e0]
  refine ⟨⟨rfl, fun c hc => ?_, fun s hs => ?_⟩, Sub.refl _, fun c => ?_, fun G g hs => hs⟩
  · match c, hc with
    | 0, _ => exact List.cons_ne_nil _ _
    | 1, _ => exact List.cons_ne_nil _ _
  · rw [List.mem_singleton.mp hs]
    exact ⟨Int.le_refl 0, fun p hp => absurd hp List.not_mem_nil⟩
  · match c with
    | 0 => exact asc_range 1
    | 1 => exact asc_range 3
    | c + 2 => exact .nil
theorem nar_f : IsNar (let0 [1] []) [([], 1)] none := fun G g hs => by
  have := (g.all ([], 1) (List.mem_singleton.mpr rfl)).ok
  rw [tsum_nil] at this
  exact absurd this (by decide)
end K36
end
section

set_option Elab.async false
set_option linter.all false
set_option maxRecDepth 100000
set_option maxHeartbeats 400000
/-! The law walked. -/
namespace K36
open PySem PySem.Spec PyProof.Rows L2
/-! ### what is told by an expression that changes nothing -/
class UpS {α : Type} (R : Rp α) : Prop where
  s : ∀ {H H' : Hp} {v : V} {x : α}, Same H H' → R H v x → R H' v x
instance {α : Type} {R : Rp α} [Up R] : UpS R := ⟨fun e h => Up.up (tk_of e) h⟩
/-- a list -/
def rLs {α : Type} (R : Rp α) : Rp (List α) := fun H v xs => ∃ a us, v = .ref a ∧ H a = some (.lst us) ∧ Paired (R H) us xs
instance {α : Type} {R : Rp α} [Up R] : UpS (rLs R) := ⟨fun e ⟨a, us, h1, h2, h3⟩ => ⟨a, us, h1, e _ _ h2, up_all (tk_of e) h3⟩⟩
section
variable {α β : Type} {K : PySem.W.Frag} {R : Rp α} {S : Rp β} {σ : L2.St} {H0 : Hp}
def Ev (σ : L2.St) (H0 : Hp) (R : Rp α) (te : TE) (x : α) : Prop := ∀ H Q, Same H0 H → (∀ v H', Same H H' → R H' v x → Q v H') → te σ H Q
def EvA (σ : L2.St) (H0 : Hp) (R : Rp α) (ta : TA) (xs : List α) : Prop := ∀ H Q, Same H0 H → (∀ vs H', Same H H' → Paired (R H') vs xs → Q vs H') → ta σ H Q
theorem ev_nil : EvA σ H0 R tNil [] := fun H Q _ q => q [] H (Same.refl _) .nil
theorem ev_cons [Up R] {te : TE} {ta : TA} {x : α} {xs : List α} (h : Ev σ H0 R te x) (t : EvA σ H0 R ta xs) : EvA σ H0 R (tCons te ta) (x :: xs) := fun H Q e q =>
  h H _ e fun v H1 e1 r1 => t H1 _ (e.trans e1) fun vs H2 e2 r2 => q (v :: vs) H2 (e1.trans e2) (.cons (Up.up (tk_of e2) r1) r2)
theorem ev_tup [Up R] {ta : TA} {xs : List α} (t : EvA σ H0 R ta xs) (hz : Nat.ble xs.length 1000000 = true) : Ev σ H0 (rT K R) (tTup ta) xs := fun H Q e q =>
  t H _ e fun vs H1 e1 r1 => ⟨by rw [r1.length]; exact szb hz, fun p np => q _ _ (e1.trans (sm_new np)) (mk_rT r1 np)⟩
theorem ev_lst [Up R] {ta : TA} {xs : List α} (t : EvA σ H0 R ta xs) (hz : Nat.ble xs.length 1000000 = true) : Ev σ H0 (rLs R) (tLst ta) xs := fun H Q e q =>
  t H _ e fun vs H1 e1 r1 => ⟨by rw [r1.length]; exact szb hz, fun p np => q _ _ (e1.trans (sm_new np)) ⟨p, vs, rfl, upd_same, up_all (tk_new np) r1⟩⟩
theorem ev_pair [Up R] [Up S] {t1 t2 : TE} {x : α} {y : β} (h1 : Ev σ H0 R t1 x) (h2 : Ev σ H0 S t2 y) : Ev σ H0 (rP K R S) (tTup (tCons t1 (tCons t2 tNil))) (x, y) := fun H Q e q =>
  h1 H _ e fun v H1 e1 r1 => h2 H1 _ (e.trans e1) fun u H2 e2 r2 => ⟨szb rfl, fun p np => q _ _ (e1.trans (e2.trans (sm_new np))) (mk_rP (Up.up (tk_of e2) r1) r2 np)⟩
theorem ev_int (n : Int) : Ev σ H0 rI (tC (.int n)) n := fun H Q _ q => q _ H (Same.refl _) rfl
theorem ev_nat (n : Nat) : Ev σ H0 rN (tC (.int (n : Int))) n := fun H Q _ q => q _ H (Same.refl _) rfl
theorem ev_var [UpS R] {i : Nat} {v : V} {x : α} (h : σ[i]? = some (some v)) (r : R H0 v x) : Ev σ H0 R (tVar i) x := fun H Q e q => ⟨v, h, q v H (Same.refl _) (UpS.s e r)⟩
theorem flat_one (n : Nat) (x : α) : (List.replicate n [x]).flatten = List.replicate n x := by
  induction n with
  | zero => rfl
  | succ n ih => rw [List.replicate_succ, List.flatten_cons, ih, List.replicate_succ]; rfl
theorem pd_rep {F : α → β → Prop} {x : α} {y : β} (h : F x y) : ∀ n, Paired F (List.replicate n x) (List.replicate n y)
  | 0 => .nil
  | n + 1 => .cons h (pd_rep h n)
theorem ev_rep [Up R] {te : TE} {x : α} (h : Ev σ H0 (rT K R) te [x]) : Ev σ H0 (rT K R) (tOp (rRepT K) te (tC (.int 100))) (List.replicate 100 x) := fun H Q e q =>
  h H _ e fun v H1 e1 ⟨a, us, ev, ha, hp⟩ => by
    subst ev
    cases hp with
    | cons r t =>
      cases t
      refine ⟨a, 100, _, rfl, rfl, ha, List.cons_ne_nil _ _, by decide, by decide, Nat.le_of_ble_eq_true rfl, fun p np => q _ _ (e1.trans (sm_new np)) ?_⟩
      have e3 : ((100 : Int).toNat) = 100 := rfl
      rw [e3, flat_one]
      exact mk_rT (pd_rep r 100) np
theorem ev_cat [Up R] {t1 t2 : TE} {xs ys : List α} (h1 : Ev σ H0 (rLs R) t1 xs) (h2 : Ev σ H0 (rLs R) t2 ys) (hz : Nat.ble (xs.length + ys.length) 1000000 = true) : Ev σ H0 (rLs R) (tOp rCat t1 t2) (xs ++ ys) := fun H Q e q =>
  h1 H _ e fun v H1 e1 r1 => h2 H1 _ (e.trans e1) fun u H2 e2 r2 => by
    obtain ⟨a, us, ea, ha, hp⟩ := UpS.s (R := rLs R) e2 r1
    obtain ⟨b, ws, eb, hb, hp2⟩ := r2
    subst ea
    subst eb
    refine ⟨a, b, us, ws, rfl, rfl, ha, hb, by rw [hp.length, hp2.length]; exact szb hz, fun p np => q _ _ (e1.trans (e2.trans (sm_new np))) ⟨p, us ++ ws, rfl, upd_same, Paired.snocs (up_all (tk_new np) hp) (up_all (tk_new np) hp2)⟩⟩
theorem ev_nar {t1 t2 t3 : TE} {sizes : List Nat} {sums : List Sm} {fx : List (Nat × List Nat)} {r : Option Fam} (h1 : Ev σ H0 (rT K rN) t1 sizes) (h2 : Ev σ H0 (rT K (rSm K)) t2 sums) (h3 : Ev σ H0 (rT K (rFx K)) t3 fx) (vp : VProb sizes sums fx) (bd : Bnd sizes sums) (isn : IsNar (let0 sizes fx) sums r) :
    Ev σ H0 (rNar K) (tCall (sp_narrowed K) [] E0 (tCons t1 (tCons t2 (tCons t3 tNil)))) r := fun H Q e q =>
  h1 H _ e fun v1 H1 e1 r1 => h2 H1 _ (e.trans e1) fun v2 H2 e2 r2 => h3 H2 _ (e.trans (e1.trans e2)) fun v3 H3 e3 r3 =>
    ⟨v1, v2, v3, sizes, sums, fx, rfl, Up.up (R := rT K rN) (tk_of (e2.trans e3)) r1, Up.up (R := rT K (rSm K)) (tk_of e3) r2, r3, vp, bd, fun res x H4 e4 isn4 rx => by
      have er := isn4.uniq isn
      subst er
      exact q x H4 (e1.trans (e2.trans (e3.trans e4))) rx⟩
theorem ev_some {te : TE} {S : Fam} (h : Ev σ H0 (rFam K) te S) : Ev σ H0 (rNar K) te (some S) := h
theorem ev_none : Ev σ H0 (rNar K) (tC .non) none := fun H Q _ q => q _ H (Same.refl _) rfl
end
/-! ### the small problems -/
theorem vf_nil (sizes : List Nat) : VFx sizes [] := ⟨Nat.zero_le _, .nil, fun p hp => absurd hp List.not_mem_nil⟩
theorem vset_one {v n : Nat} (h : v < n) : VSet [v] n := ⟨List.cons_ne_nil _ _, List.pairwise_singleton _ _, fun w hw => by rw [List.mem_singleton.mp hw]; exact h, Nat.le_of_ble_eq_true rfl⟩
theorem vf_a : VFx two fxa := ⟨Nat.le_of_ble_eq_true rfl, List.pairwise_singleton _ _, fun p hp => by
  rw [List.mem_singleton.mp hp]
  exact ⟨by rw [List.length_replicate]; show 0 < 100; omega, vset_one (by rw [rep_d (by show 0 < 100; omega)]; omega)⟩⟩
theorem vf_b : VFx two fxb := ⟨Nat.le_of_ble_eq_true rfl, List.pairwise_cons.mpr ⟨fun p hp => by rw [List.mem_singleton.mp hp]; show 0 < 99; omega, List.pairwise_singleton _ _⟩, fun p hp => by
  rcases List.mem_cons.mp hp with e | e
  · rw [e]
    exact ⟨by rw [List.length_replicate]; show 0 < 100; omega, vset_one (by rw [rep_d (by show 0 < 100; omega)]; omega)⟩
  · rw [List.mem_singleton.mp e]
    exact ⟨by rw [List.length_replicate]; show 99 < 100; omega, vset_one (by rw [rep_d (by show 99 < 100; omega)]; omega)⟩⟩
theorem vp_chain {fx : List (Nat × List Nat)} (h : VFx two fx) : VProb two chainS fx := ⟨two_z, by have := chain_bnd.few; omega, chain_ok, h⟩
theorem vs_empty {sizes : List Nat} {b : Int} (h : 1 ≤ b ∨ b = 0) : VSm sizes ([], b) := ⟨⟨Nat.zero_le _, .nil, fun p hp => absurd hp List.not_mem_nil⟩, fun p hp => absurd hp List.not_mem_nil, h.elim .inl fun e => .inr (by rw [e])⟩
theorem vp_d : VProb [] [] [] := ⟨⟨Nat.zero_le _, fun z hz => absurd hz List.not_mem_nil⟩, Nat.zero_le _, fun s hs => absurd hs List.not_mem_nil, vf_nil _⟩
theorem vp_e : VProb [1, 3] [([], 0)] [] := ⟨⟨by decide, by decide⟩, by decide, fun s hs => by rw [List.mem_singleton.mp hs]; exact vs_empty (.inr rfl), vf_nil _⟩
theorem vp_f : VProb [1] [([], 1)] [] := ⟨⟨by decide, by decide⟩, by decide, fun s hs => by rw [List.mem_singleton.mp hs]; exact vs_empty (.inl (by decide)), vf_nil _⟩
/-- what is due -/
def dueL : List (Option Fam) := [some resA, none, some resC, some [], some [[0], [0, 1, 2]], none]
theorem due_ok : okD 8 (.list (dueL.map dNar)) ∧ shD 1000000 (.list (dueL.map dNar)) := by
  have fam : ∀ S : Fam, S.length ≤ 100 → (∀ l, l ∈ S → l.length ≤ 4 ∧ ∀ v, v ∈ l → v ≤ 1000000) → okD 2 (dNar (some S)) ∧ shD 6503 (dNar (some S)) := fun S h1 h2 => by
    refine ⟨okD_tup (k := 1) fun d hd => ?_, shD_tup (n := 63) (m := 100) (fun d hd => ?_) (by rw [List.length_map]; exact h1)⟩
    · obtain ⟨l, hl, rfl⟩ := List.mem_map.mp hd
      refine okD_tup (k := 0) fun d hd => ?_
      obtain ⟨v, hv, rfl⟩ := List.mem_map.mp hd
      exact okD_int 0 _
    · obtain ⟨l, hl, rfl⟩ := List.mem_map.mp hd
      obtain ⟨l4, lv⟩ := h2 l hl
      refine shD_tup (n := 13) (m := 4) (fun d hd => ?_) (by rw [List.length_map]; exact l4)
      obtain ⟨v, hv, rfl⟩ := List.mem_map.mp hd
      exact shD_nat (lv v hv)
  have non : okD 2 (dNar none) ∧ shD 6503 (dNar none) := ⟨⟨rfl, Nat.zero_le _⟩, shD_none.mono (by decide)⟩
  have all : ∀ d, d ∈ dueL.map dNar → okD 2 d ∧ shD 6503 d := fun d hd => by
    obtain ⟨r, hr, rfl⟩ := List.mem_map.mp hd
    unfold dueL at hr
    simp only [List.mem_cons, List.not_mem_nil, or_false] at hr
    rcases hr with e | e | e | e | e | e
    · subst e
      refine fam _ (by rw [List.length_replicate]; exact Nat.le_refl _) fun l hl => ?_
      rw [(List.mem_replicate.mp hl).2]
      exact ⟨by decide, by decide⟩
    · subst e; exact non
    · subst e
      refine fam _ (by rw [List.length_replicate]; exact Nat.le_refl _) fun l hl => ?_
      rw [(List.mem_replicate.mp hl).2]
      exact ⟨by decide, by decide⟩
    · subst e; exact fam _ (Nat.zero_le _) fun l hl => absurd hl List.not_mem_nil
    · subst e; exact fam _ (by decide) (by decide)
    · subst e; exact non
  refine ⟨(okD_lst fun d hd => (all d hd).1).mono (by decide), (shD_lst (m := 6) (fun d hd => (all d hd).2) (by rw [List.length_map]; exact Nat.le_refl _)).mono (by decide)⟩
section
variable {P : Program} {w : World} {K : PySem.W.Frag} {mg : Str → Option Value} {base : Heap}
theorem nar_dp1 {H : Hp} {v : V} {r : Option Fam} (h : rNar K H v r) : Dp K H v (dNar r) := by
  cases r with
  | none =>
    have h : v = .non := h
    subst h
    exact .non
  | some S => exact (fam_data (S := S) h).1
theorem nar_dp {H : Hp} : ∀ {us : List V} {rs : List (Option Fam)}, Paired (rNar K H) us rs → DpAll K H us (rs.map dNar)
  | _, _, .nil => .nil
  | _, _, .cons h t => .cons (nar_dp1 h) (nar_dp t)
theorem ls_dp {H : Hp} {v : V} {rs : List (Option Fam)} (h : rLs (rNar K) H v rs) : Dp K H v (.list (rs.map dNar)) ∧ ∃ a, v = .ref a := by
  obtain ⟨a, us, rfl, h1, h2⟩ := h
  exact ⟨.lst (sl_of h1) (nar_dp h2), a, rfl⟩
/-! ### the parts of what is told -/
section
variable {σ : L2.St} {H0 : Hp}
theorem ev_one (n : Nat) : Ev σ H0 (rT K rN) (tTup (tCons (tC (.int (n : Int))) tNil)) [n] := ev_tup (ev_cons (ev_nat n) ev_nil) rfl
theorem ev_two : Ev σ H0 (rT K rN) (tOp (rRepT K) (tTup (tCons (tC (.int 2)) tNil)) (tC (.int 100))) two := ev_rep (ev_one 2)
theorem ev_fx1 (c v : Nat) : Ev σ H0 (rFx K) (tTup (tCons (tC (.int (c : Int))) (tCons (tTup (tCons (tC (.int (v : Int))) tNil)) tNil))) (c, [v]) := ev_pair (R := rN) (S := rT K rN) (ev_nat c) (ev_one v)
theorem ev_mt {α : Type} (R : Rp α) [Up R] : Ev σ H0 (rT K R) (tTup tNil) [] := ev_tup ev_nil rfl
theorem ev_sm1 (b : Int) : Ev σ H0 (rT K (rSm K)) (tTup (tCons (tTup (tCons (tTup tNil) (tCons (tC (.int b)) tNil))) tNil)) [([], b)] := ev_tup (R := rSm K) (ev_cons (R := rSm K) (ev_pair (R := rTerms K) (S := rI) (ev_mt (rP K rN (rT K rI))) (ev_int b)) ev_nil) rfl
abbrev tNar (K : PySem.W.Frag) (t1 t2 t3 : TE) : TE := tCall (sp_narrowed K) [] E0 (tCons t1 (tCons t2 (tCons t3 tNil)))
abbrev tTwo (K : PySem.W.Frag) : TE := tOp (rRepT K) (tTup (tCons (tC (.int 2)) tNil)) (tC (.int 100))
abbrev tFx1 (c v : Int) : TE := tTup (tCons (tC (.int c)) (tCons (tTup (tCons (tC (.int v)) tNil)) tNil))
theorem hand1 {u : V} (hs : σ[1]? = some (some u)) (rs : rT K (rSm K) H0 u chainS) :
    Ev σ H0 (rLs (rNar K)) (tLst (tCons (tNar K (tTwo K) (tVar 1) (tTup (tCons (tFx1 0 1) tNil))) (tCons (tNar K (tTwo K) (tVar 1) (tTup (tCons (tFx1 0 1) (tCons (tFx1 99 0) tNil)))) tNil))) [some resA, none] := by
  have a : Ev σ H0 (rT K (rFx K)) (tTup (tCons (tFx1 0 1) tNil)) fxa := ev_tup (R := rFx K) (ev_cons (R := rFx K) (ev_fx1 0 1) ev_nil) rfl
  have b : Ev σ H0 (rT K (rFx K)) (tTup (tCons (tFx1 0 1) (tCons (tFx1 99 0) tNil))) fxb := ev_tup (R := rFx K) (ev_cons (R := rFx K) (ev_fx1 0 1) (ev_cons (R := rFx K) (ev_fx1 99 0) ev_nil)) rfl
  have v : Ev σ H0 (rT K (rSm K)) (tVar 1) chainS := ev_var (R := rT K (rSm K)) hs rs
  have n1 := ev_nar ev_two v a (vp_chain vf_a) chain_bnd nar_a
  have n2 := ev_nar ev_two v b (vp_chain vf_b) chain_bnd nar_b
  exact ev_lst (R := rNar K) (ev_cons (R := rNar K) n1 (ev_cons (R := rNar K) n2 ev_nil)) rfl
theorem hand2 {u g : V} (hs : σ[1]? = some (some u)) (rs : rT K (rSm K) H0 u chainS) (hg : σ[2]? = some (some g)) (rg : rLs (rNar K) H0 g [some resA, none]) :
    Ev σ H0 (rLs (rNar K)) (tOp rCat (tVar 2) (tLst (tCons (tNar K (tTwo K) (tVar 1) (tTup tNil)) (tCons (tNar K (tTup tNil) (tTup tNil) (tTup tNil)) tNil)))) [some resA, none, some resC, some []] := by
  have v : Ev σ H0 (rT K (rSm K)) (tVar 1) chainS := ev_var (R := rT K (rSm K)) hs rs
  have n1 := ev_nar ev_two v (ev_mt (rFx K)) (vp_chain (vf_nil _)) chain_bnd nar_c
  have n2 := ev_nar (σ := σ) (H0 := H0) (ev_mt (K := K) rN) (ev_mt (rSm K)) (ev_mt (rFx K)) vp_d ⟨fun z hz => absurd hz List.not_mem_nil, Nat.zero_le _⟩ nar_d
  exact ev_cat (R := rNar K) (ev_var (R := rLs (rNar K)) hg rg) (ev_lst (R := rNar K) (ev_cons (R := rNar K) n1 (ev_cons (R := rNar K) n2 ev_nil)) rfl) rfl
theorem hand3 {g : V} (hg : σ[2]? = some (some g)) (rg : rLs (rNar K) H0 g [some resA, none, some resC, some []]) :
    Ev σ H0 (rLs (rNar K)) (tOp rCat (tVar 2) (tLst (tCons (tNar K (tTup (tCons (tC (.int 1)) (tCons (tC (.int 3)) tNil))) (tTup (tCons (tTup (tCons (tTup tNil) (tCons (tC (.int 0)) tNil))) tNil)) (tTup tNil)) (tCons (tNar K (tTup (tCons (tC (.int 1)) tNil)) (tTup (tCons (tTup (tCons (tTup tNil) (tCons (tC (.int 1)) tNil))) tNil)) (tTup tNil)) tNil)))) dueL := by
  have z13 : Ev σ H0 (rT K rN) (tTup (tCons (tC (.int 1)) (tCons (tC (.int 3)) tNil))) [1, 3] := ev_tup (R := rN) (ev_cons (R := rN) (ev_nat 1) (ev_cons (R := rN) (ev_nat 3) ev_nil)) rfl
  have n1 := ev_nar z13 (ev_sm1 0) (ev_mt (rFx K)) vp_e ⟨by decide, by decide⟩ nar_e
  have n2 := ev_nar (σ := σ) (H0 := H0) (ev_one (K := K) 1) (ev_sm1 1) (ev_mt (rFx K)) vp_f ⟨by decide, by decide⟩ nar_f
  exact ev_cat (R := rNar K) (ev_var (R := rLs (rNar K)) hg rg) (ev_lst (R := rNar K) (ev_cons (R := rNar K) n1 (ev_cons (R := rNar K) n2 ev_nil)) rfl) rfl
theorem handD :
    Ev σ H0 (rLs (rNar K)) (tLst (tCons (tOp (rRepT K) (tTup (tCons (tTup (tCons (tC (.int 1)) tNil)) tNil)) (tC (.int 100))) (tCons (tC .non) (tCons (tOp (rRepT K) (tTup (tCons (tTup (tCons (tC (.int 0)) (tCons (tC (.int 1)) tNil))) tNil)) (tC (.int 100))) (tCons (tTup tNil)
      (tCons (tTup (tCons (tTup (tCons (tC (.int 0)) tNil)) (tCons (tTup (tCons (tC (.int 0)) (tCons (tC (.int 1)) (tCons (tC (.int 2)) tNil)))) tNil))) (tCons (tC .non) tNil))))))) dueL := by
  have a : Ev σ H0 (rFam K) (tOp (rRepT K) (tTup (tCons (tTup (tCons (tC (.int 1)) tNil)) tNil)) (tC (.int 100))) resA := ev_rep (R := rT K rN) (ev_tup (R := rT K rN) (ev_cons (R := rT K rN) (ev_one 1) ev_nil) rfl)
  have z01 : Ev σ H0 (rT K rN) (tTup (tCons (tC (.int 0)) (tCons (tC (.int 1)) tNil))) [0, 1] := ev_tup (R := rN) (ev_cons (R := rN) (ev_nat 0) (ev_cons (R := rN) (ev_nat 1) ev_nil)) rfl
  have c : Ev σ H0 (rFam K) (tOp (rRepT K) (tTup (tCons (tTup (tCons (tC (.int 0)) (tCons (tC (.int 1)) tNil))) tNil)) (tC (.int 100))) resC := ev_rep (R := rT K rN) (ev_tup (R := rT K rN) (ev_cons (R := rT K rN) z01 ev_nil) rfl)
  have z012 : Ev σ H0 (rT K rN) (tTup (tCons (tC (.int 0)) (tCons (tC (.int 1)) (tCons (tC (.int 2)) tNil)))) [0, 1, 2] := ev_tup (R := rN) (ev_cons (R := rN) (ev_nat 0) (ev_cons (R := rN) (ev_nat 1) (ev_cons (R := rN) (ev_nat 2) ev_nil))) rfl
  have e : Ev σ H0 (rFam K) (tTup (tCons (tTup (tCons (tC (.int 0)) tNil)) (tCons (tTup (tCons (tC (.int 0)) (tCons (tC (.int 1)) (tCons (tC (.int 2)) tNil)))) tNil))) [[0], [0, 1, 2]] := ev_tup (R := rT K rN) (ev_cons (R := rT K rN) (ev_one 0) (ev_cons (R := rT K rN) z012 ev_nil)) rfl
  have d : Ev σ H0 (rFam K) (tTup tNil) [] := ev_mt (rT K rN)
  exact ev_lst (R := rNar K) (ev_cons (R := rNar K) (ev_some a) (ev_cons (R := rNar K) ev_none (ev_cons (R := rNar K) (ev_some c) (ev_cons (R := rNar K) (ev_some d) (ev_cons (R := rNar K) (ev_some e) (ev_cons (R := rNar K) ev_none ev_nil)))))) rfl
end
theorem asgS {te : TE} {i : Nat} {k : TS} {D : Ends} {σ : L2.St} {H : Hp} (h : te σ H fun x H1 => k D (σ.set i (some x)) H1) : tSeq (tAsg te (gName i)) k D σ H := h
def sp_hand : Sp := fun vs _ Q _ => vs = [] ∧ ∀ H', Q (.bl true) H'
theorem ok__law_by_hand {f : Addr} {fd : FuncData} (F : Fun K "_law_by_hand" "_law_by_hand" s__law_by_hand f fd) (B : BI mg) (D_narrowed : Dk P w K mg base 8 "narrowed" ["sizes", "sums", "fixed"] (sp_narrowed K))
    (D__law_like : Dg P w K mg base 1 "_law_like" ["_law_got", "_law_due"] (sp_like K)) : FnG P w K mg base 9 f fd [] sp_hand := by
  refine Fun.okG F sc__law_by_hand (fun vs H Q E h => by rw [h.1]; rfl) (fun cdv A outer sh H vs Q E hr hgd h => ?_)
  · obtain ⟨rfl, q⟩ := h
    refine ⟨_, (pss_cons (ps_set (i := 0) sc__law_by_hand.nd rfl (Or.inl rfl) (pe_callTy call_tuple_of (by rfl) B.tuple (by decide +kernel) (pa_cons (pe_lc (own := [("_law_spot", 4)]) (g := gName 4) (tt := tYes) rfl sc__law_by_hand.nd (pi_range1 (by rfl) B.range (pa_cons pe_int pa_nil)) (blkOk_by (own := [("_law_spot", 4)]) (N := N__law_by_hand) (sc := (defScope s__law_by_hand)) (by decide +kernel)) (fun _ _ _ _ _ => (pg_name (i := 4) sc__law_by_hand.nd rfl (Or.inl rfl))) (fun _ _ _ _ _ => pts_nil) (fun _ _ _ _ _ => (pe_tup (pa_cons (pe_tup (pa_cons (pv 4) (pa_cons (pe_tup (pa_cons pe_int (pa_cons pe_int pa_nil))) pa_nil))) (pa_cons (pe_tup (pa_cons (pe_op op_add (pv 4) pe_int) (pa_cons (pe_tup (pa_cons pe_int (pa_cons pe_int pa_nil))) pa_nil))) pa_nil))))) pa_nil)))
      (pss_cons (ps_set (i := 1) sc__law_by_hand.nd rfl (Or.inl rfl) (pe_callTy call_tuple_of (by rfl) B.tuple (by decide +kernel) (pa_cons (pe_lc (own := [("_law_pair_so", 5)]) (g := gName 5) (tt := tYes) rfl sc__law_by_hand.nd (piT K (pv 0)) (blkOk_by (own := [("_law_pair_so", 5)]) (N := N__law_by_hand) (sc := (defScope s__law_by_hand)) (by decide +kernel)) (fun _ _ _ _ _ => (pg_name (i := 5) sc__law_by_hand.nd rfl (Or.inl rfl))) (fun _ _ _ _ _ => pts_nil) (fun _ _ _ _ _ => (pe_tup (pa_cons (pv 5) (pa_cons pe_int pa_nil))))) pa_nil)))
      (pss_cons (ps_set (i := 2) sc__law_by_hand.nd rfl (Or.inl rfl) (pe_lst (pa_cons (pe_callD D_narrowed hr (pa_cons (pe_op op_repT (pe_tup (pa_cons pe_int pa_nil)) pe_int) (pa_cons (pv 1) (pa_cons (pe_tup (pa_cons (pe_tup (pa_cons pe_int (pa_cons (pe_tup (pa_cons pe_int pa_nil)) pa_nil))) pa_nil)) pa_nil)))) (pa_cons (pe_callD D_narrowed hr (pa_cons (pe_op op_repT (pe_tup (pa_cons pe_int pa_nil)) pe_int) (pa_cons (pv 1) (pa_cons (pe_tup (pa_cons (pe_tup (pa_cons pe_int (pa_cons (pe_tup (pa_cons pe_int pa_nil)) pa_nil))) (pa_cons (pe_tup (pa_cons pe_int (pa_cons (pe_tup (pa_cons pe_int pa_nil)) pa_nil))) pa_nil))) pa_nil)))) pa_nil))))
      (pss_cons (ps_set (i := 2) sc__law_by_hand.nd rfl (Or.inl rfl) (pe_op op_cat (pv 2) (pe_lst (pa_cons (pe_callD D_narrowed hr (pa_cons (pe_op op_repT (pe_tup (pa_cons pe_int pa_nil)) pe_int) (pa_cons (pv 1) (pa_cons (pe_tup pa_nil) pa_nil)))) (pa_cons (pe_callD D_narrowed hr (pa_cons (pe_tup pa_nil) (pa_cons (pe_tup pa_nil) (pa_cons (pe_tup pa_nil) pa_nil)))) pa_nil)))))
      (pss_cons (ps_set (i := 2) sc__law_by_hand.nd rfl (Or.inl rfl) (pe_op op_cat (pv 2) (pe_lst (pa_cons (pe_callD D_narrowed hr (pa_cons (pe_tup (pa_cons pe_int (pa_cons pe_int pa_nil))) (pa_cons (pe_tup (pa_cons (pe_tup (pa_cons (pe_tup pa_nil) (pa_cons pe_int pa_nil))) pa_nil)) (pa_cons (pe_tup pa_nil) pa_nil)))) (pa_cons (pe_callD D_narrowed hr (pa_cons (pe_tup (pa_cons pe_int pa_nil)) (pa_cons (pe_tup (pa_cons (pe_tup (pa_cons (pe_tup pa_nil) (pa_cons pe_int pa_nil))) pa_nil)) (pa_cons (pe_tup pa_nil) pa_nil)))) pa_nil)))))
      (pss_cons (ps_set (i := 3) sc__law_by_hand.nd rfl (Or.inl rfl) (pe_lst (pa_cons (pe_op op_repT (pe_tup (pa_cons (pe_tup (pa_cons pe_int pa_nil)) pa_nil)) pe_int) (pa_cons pe_non (pa_cons (pe_op op_repT (pe_tup (pa_cons (pe_tup (pa_cons pe_int (pa_cons pe_int pa_nil))) pa_nil)) pe_int) (pa_cons (pe_tup pa_nil) (pa_cons (pe_tup (pa_cons (pe_tup (pa_cons pe_int pa_nil)) (pa_cons (pe_tup (pa_cons pe_int (pa_cons pe_int (pa_cons pe_int pa_nil)))) pa_nil))) (pa_cons pe_non pa_nil))))))))
      (pss_one (ps_ret (pe_callDG D__law_like hr hgd (pa_cons (pv 2) (pa_cons (pv 3) pa_nil))))))))))), ?_⟩
    -- the chain
    refine ⟨99, rfl, by decide, by decide, fun D nD => ?_⟩
    refine lc_pure walk_range (rTerms K) (List.range 99) (by rw [List.length_range]; rfl) (fun _ => true) linkT nD (by decide) (fun _ _ => True.intro) (fun i z x H2 H3 Cy Cn hz e hy cy cn => ?_) (fun k H4 x H5 h => h.1 ▸ Same.refl _) fun H1 us e1 hl hp => ?_
    · obtain ⟨rfl, rfl⟩ := hy
      have ev : z = i := by
        rw [List.getElem?_range (by have := (List.getElem?_eq_some_iff.mp hz).1; rw [List.length_range] at this; exact this)] at hz
        exact (Option.some.inj hz).symm
      subst ev
      refine ⟨rfl, ?_⟩
      have e0 : (0 : Int) + (z : Int) = (z : Int) := Int.zero_add _
      dsimp only
      rw [e0]
      refine ⟨_, rfl, szb rfl, fun t1 n1 => ⟨szb rfl, fun t2 n2 => ⟨_, rfl, (z : Int), 1, rfl, rfl, szb rfl, fun t3 n3 => ⟨szb rfl, fun t4 n4 => ⟨szb rfl, fun t5 n5 => ?_⟩⟩⟩⟩⟩
      have r1 : rT K rI (upd H3 t1 (.tup [.int 1, .int 0])) (.ref t1) [1, 0] := mk_rT (R := rI) (.cons rfl (.cons rfl .nil)) n1
      have m1 : Same H3 (upd H3 t1 (.tup [.int 1, .int 0])) := sm_new n1
      generalize upd H3 t1 (.tup [.int 1, .int 0]) = G1 at n2 n3 n4 n5 r1 m1
      have r2 : rP K rN (rT K rI) (upd G1 t2 (.tup [.int (z : Int), .ref t1])) (.ref t2) (z, [1, 0]) := mk_rP (R := rN) (S := rT K rI) rfl r1 n2
      have m2 := m1.trans (sm_new n2 (o := .tup [.int (z : Int), .ref t1]))
      generalize upd G1 t2 (.tup [.int (z : Int), .ref t1]) = G2 at n3 n4 n5 r2 m2
      have r3 : rT K rI (upd G2 t3 (.tup [.int 0, .int 1])) (.ref t3) [0, 1] := mk_rT (R := rI) (.cons rfl (.cons rfl .nil)) n3
      have m3 : Same G2 (upd G2 t3 (.tup [.int 0, .int 1])) := sm_new n3
      generalize upd G2 t3 (.tup [.int 0, .int 1]) = G3 at n4 n5 r3 m3
      have r4 : rP K rN (rT K rI) (upd G3 t4 (.tup [.int ((z : Int) + 1), .ref t3])) (.ref t4) (z + 1, [0, 1]) := mk_rP (R := rN) (S := rT K rI) rfl r3 n4
      have m4 := m3.trans (sm_new n4 (o := .tup [.int ((z : Int) + 1), .ref t3]))
      generalize upd G3 t4 (.tup [.int ((z : Int) + 1), .ref t3]) = G4 at n5 r4 m4
      exact cy _ _ (m2.trans (m4.trans (sm_new n5))) (mk_rT (R := rP K rN (rT K rI)) (.cons (Up.up (R := rP K rN (rT K rI)) (tk_of m4) r2) (.cons r4 .nil)) n5) rfl
    · rw [List.filter_eq_self.mpr (fun _ _ => rfl)] at hp
      refine ⟨D, us, rfl, .inl ⟨sl_of hl, fun t nt => ?_⟩⟩
      have rc : rT K (rTerms K) (upd H1 t (.tup us)) (.ref t) ((List.range 99).map linkT) := mk_rT hp nt
      have e2 : Same H1 (upd H1 t (.tup us)) := sm_new nt
      generalize upd H1 t (.tup us) = H2 at rc e2
      -- its sums
      obtain ⟨_, us2, ec, hT, hp2⟩ := rc
      cases ec
      refine ⟨_, rfl, t, rfl, ⟨us2, hT⟩, fun D2 nD2 => ?_⟩
      refine lc_pure walk_tup (rSm K) ((List.range 99).map linkT) hp2.length.symm (fun _ => true) (fun ts => (ts, (1 : Int))) nD2 (by rw [hp2.length, List.length_map, List.length_range]; decide) (fun H3 e3 => (tk_of e3).sq hT) (fun i z x H3 H4 Cy Cn hz e3 hy cy cn => ?_) yat_same fun H3 us3 e3 hl3 hp3 => ?_
      · obtain ⟨rfl, hx⟩ := hy
        obtain ⟨z', hz', rz⟩ := pd_get hp2 hx
        rw [hz] at hz'
        cases hz'
        refine ⟨rfl, _, rfl, szb rfl, fun t1 n1 => ?_⟩
        exact cy _ _ (sm_new n1) (mk_rP (R := rTerms K) (S := rI) (Up.up (R := rTerms K) (tk_of e3) rz) rfl n1) rfl
      · rw [List.filter_eq_self.mpr (fun _ _ => rfl), List.map_map] at hp3
        refine ⟨D2, us3, rfl, .inl ⟨sl_of hl3, fun t3 n3 => ?_⟩⟩
        have rs : rT K (rSm K) (upd H3 t3 (.tup us3)) (.ref t3) chainS := mk_rT hp3 n3
        generalize upd H3 t3 (.tup us3) = H4 at rs
        -- what it tells
        have fin : ∀ (σ : L2.St), σ = [some (.ref t), some (.ref t3), none, none, none, none] → tSeq (tAsg (tLst (tCons (tNar K (tTwo K) (tVar 1) (tTup (tCons (tFx1 0 1) tNil))) (tCons (tNar K (tTwo K) (tVar 1) (tTup (tCons (tFx1 0 1) (tCons (tFx1 99 0) tNil)))) tNil))) (gName 2))
            (tSeq (tAsg (tOp rCat (tVar 2) (tLst (tCons (tNar K (tTwo K) (tVar 1) (tTup tNil)) (tCons (tNar K (tTup tNil) (tTup tNil) (tTup tNil)) tNil)))) (gName 2))
              (tSeq (tAsg (tOp rCat (tVar 2) (tLst (tCons (tNar K (tTup (tCons (tC (.int 1)) (tCons (tC (.int 3)) tNil))) (tTup (tCons (tTup (tCons (tTup tNil) (tCons (tC (.int 0)) tNil))) tNil)) (tTup tNil)) (tCons (tNar K (tTup (tCons (tC (.int 1)) tNil)) (tTup (tCons (tTup (tCons (tTup tNil) (tCons (tC (.int 1)) tNil))) tNil)) (tTup tNil)) tNil)))) (gName 2))
                (tSeq (tAsg (tLst (tCons (tOp (rRepT K) (tTup (tCons (tTup (tCons (tC (.int 1)) tNil)) tNil)) (tC (.int 100))) (tCons (tC .non) (tCons (tOp (rRepT K) (tTup (tCons (tTup (tCons (tC (.int 0)) (tCons (tC (.int 1)) tNil))) tNil)) (tC (.int 100))) (tCons (tTup tNil)
                    (tCons (tTup (tCons (tTup (tCons (tC (.int 0)) tNil)) (tCons (tTup (tCons (tC (.int 0)) (tCons (tC (.int 1)) (tCons (tC (.int 2)) tNil)))) tNil))) (tCons (tC .non) tNil))))))) (gName 3))
                  (tRet (tCall (sp_like K) [] E0 (tCons (tVar 2) (tCons (tVar 3) tNil))))))) { nx := fun _ H' => Q .non H', rt := Q } σ H4 := by
          intro σ eσ
          subst eσ
          refine asgS (hand1 rfl rs H4 _ (Same.refl _) fun g H5 e5 r5 => ?_)
          have rs5 := Up.up (R := rT K (rSm K)) (tk_of e5) rs
          refine asgS (hand2 rfl rs5 rfl r5 H5 _ (Same.refl _) fun g2 H6 e6 r6 => ?_)
          refine asgS (hand3 rfl r6 H6 _ (Same.refl _) fun g3 H7 e7 r7 => ?_)
          refine asgS (handD H7 _ (Same.refl _) fun du H8 e8 r8 => ?_)
          obtain ⟨d1, a1⟩ := ls_dp (UpS.s (R := rLs (rNar K)) e8 r7)
          obtain ⟨d2, a2⟩ := ls_dp r8
          exact ⟨_, rfl, _, rfl, g3, du, _, rfl, d1, d2, due_ok.1, due_ok.2, .inr a1, .inr a2, q _⟩
        exact fin _ rfl
def sp_law (K : PySem.W.Frag) : Sp := fun vs H Q _ => ∃ (a : Addr) (ns : List Int), vs = [.ref a] ∧ SqL K H a (ns.map V.int) ∧ ns.length ≤ 100000 ∧ ∀ H', Q (.bl true) H'
theorem ok_law {f : Addr} {fd : FuncData} (F : Fun K "law" "law" s_law f fd) (B : BI mg) (D__law_begin : Dk P w K mg base 1 "_law_begin" ["_law_script"] (sp_begin K)) (D__law_right : Dg P w K mg base 9 "_law_right" ["_law_state"] sp_right) (D__law_by_hand : Dg P w K mg base 9 "_law_by_hand" [] sp_hand) : FnG P w K mg base 10 f fd ["_law_script"] (sp_law K) := by
  refine Fun.okG F sc_law (fun vs H Q E h => ?_) (fun cdv A outer sh H vs Q E hr hgd h => ?_)
  · obtain ⟨a, ns, rfl, _⟩ := h
    rfl
  · obtain ⟨a, ns, rfl, hL, hz, q⟩ := h
    refine ⟨_, (pss_cons (ps_set (i := 1) sc_law.nd rfl (Or.inl rfl) (pe_callD D__law_begin hr (pa_cons (pv 0) pa_nil)))
      (pss_cons (ps_for PassesOwn.never rfl (pi_range1 (by rfl) B.range (pa_cons pe_int pa_nil)) (pg_name (i := 2) sc_law.nd rfl (Or.inl rfl)) (pss_one (ps_if (pt_not (pt_val (pe_callDG D__law_right hr hgd (pa_cons (pv 1) pa_nil)))) (pss_one (ps_ret pe_bl)) pss_nil)))
      (pss_one (ps_ret (pe_callDG0 D__law_by_hand hr hgd))))), ?_⟩
    refine ⟨_, rfl, a, ns, rfl, hL, hz, fun s ll lc H1 l1 => ?_⟩
    refine ⟨4, rfl, by decide, by decide, for_it walk_range (fun i σ H' => Ld s ll lc (i * 1000) H' ∧ ∃ y2, σ = [some (.ref a), some (.ref s), y2]) ⟨l1.mono (by omega), none, rfl⟩ (fun _ _ _ _ _ => True.intro) (fun i x σ H2 H3 hi hP hy => ?_) fun σ H2 hP => ?_⟩
    · obtain ⟨l2, y2, rfl⟩ := hP
      obtain ⟨rfl, rfl⟩ := hy
      have hi : i < 4 := hi
      exact ⟨_, rfl, s, ll, lc, i * 1000, rfl, l2, by omega, fun H4 l4 => ⟨true, rfl, iteF ⟨l4.mono (by omega), _, rfl⟩⟩⟩
    · obtain ⟨l2, y2, rfl⟩ := hP
      exact ⟨rfl, fun H' => q H'⟩
end
end K36
end
section
set_option Elab.async false
set_option linter.all false
set_option maxRecDepth 100000
set_option maxHeartbeats 4000000
/-! The end: what the top has written, the law's own head. -/
namespace K36
open PySem PySem.Spec PyProof.Rows L2
/-- a def stands at the top -/
def Stands (K : PySem.W.Frag) (mg : Str → Option Value) (x : Str) (st : Stmt) : Prop := ∃ f fd, mg x = some (.ref f) ∧ Fun K x x st f fd
theorem stands_mk {K : PySem.W.Frag} {h : Heap} {mg : Str → Option Value} {x : Str} {st : Stmt} {f : Addr} {od an : Option Addr} {sl : Array (Option Value)} {oc kV dc pm cd ct : Value} (X : K.In h) (G : h.Ns mainGlobals mg)
    (a : PySem.W.nsIn K mainGlobals x = some (some (.ref f))) (l : K.lookup f = some ⟨oc, od, .func (PySem.W.fnOf x x (defArgs st) (defBody st) (defScope st) .none kV dc pm an cd ct), sl⟩) (c : PySem.W.codeIn K cd x = true) (k : PySem.W.keepIn K (.ref f) = true) :
    Stands K mg x st := ⟨f, _, PySem.W.mg_of X G a, fun_mk l c k⟩
theorem cs_mk {K : PySem.W.Frag} {h : Heap} {mg : Str → Option Value} {n e m1 m2 : Nat} {t1 t2 t3 t4 : Nat} {od1 od2 : Option Addr} {sl1 sl2 : Array (Option Value)} (X : K.In h) (G : h.Ns mainGlobals mg)
    (c1 : PySem.W.nsIn K mainGlobals "MOST_CHOICES" = some (some (.int 100 t1))) (c2 : PySem.W.nsIn K mainGlobals "MOST_VALUES" = some (some (.int 200 t2))) (c3 : PySem.W.nsIn K mainGlobals "MOST_SUMS" = some (some (.int 40000 t3)))
    (c4 : PySem.W.nsIn K mainGlobals "NOTHING" = some (some (.ref n))) (c5 : K.lookup n = some ⟨.type "tuple", od1, .seq #[.ref e, .int 0 t4] m1, sl1⟩) (c6 : K.lookup e = some ⟨.type "tuple", od2, .seq #[] m2, sl2⟩) : Cs K mg :=
  ⟨⟨t1, PySem.W.mg_of X G c1⟩, ⟨t2, PySem.W.mg_of X G c2⟩, ⟨t3, PySem.W.mg_of X G c3⟩, n, e, PySem.W.mg_of X G c4, fun H => .inr ⟨_, _, _, c5, rfl, rfl, szb rfl, .cons rfl (.cons ⟨t4, rfl⟩ .nil)⟩, fun H => .inr ⟨_, _, _, c6, rfl, rfl, szb rfl, .nil⟩⟩
/-- the law's call where no repr is under way: true, and nothing that stood is changed -/
theorem runG {P : Program} {w : World} {K : PySem.W.Frag} {mg mb : Str → Option Value} {k : Nat} {fa a : Addr} {fd : FuncData} {x : Str} {sp : Sp} {s1 : Shared} {its : List Value} {ns : List Int}
    (inK : K.In s1.heap) (glob : s1.heap.Ns mainGlobals mg) (bns : s1.heap.Ns builtinsNs mb) (boot : ∀ y : Str, y ≠ "__name__" → mb y = bootBuiltins y) (lim : s1.heap.NoLimit) (nog : s1.gens = #[])
    (obj : s1.heap.get? a = some { cls := .type "list", data := .seq its.toArray }) (are : IntsAre its ns) (short : ns.length ≤ sizeLine) (room : Room k callerA) (quiet : callerA.guards = some [])
    (Fn : ∀ base : Heap, FnG P w K mg base k fa fd [x] sp) (bind : ∀ (s : Shared) (u : Value), BindsTo s fd ⟨[u], []⟩ [(x, u)])
    (say : ∀ T : Hp, SqL K T a (ns.map V.int) → sp [.ref a] T (fun v _ => v = .bl true) E0) :
    codeAny (model P w) callerA (.call (.ref fa) ⟨[.ref a], []⟩) (fun res s' => res = .ok (.ret (.bool true)) ∧ OldK s1.heap s'.heap ∧ s'.os = s1.os ∧ AllBare s'.gens) s1 := by
  have vals := vals_ints are
  have going : ∀ T : Hp, (∀ c, T c = none ∨ (c = a ∧ K.lookup a = none ∧ ∃ o ys, T c = some (.frz o (.lst ys)))) → SqL K T a (ns.map V.int) → HOk P w T s1.heap →
      codeAny (model P w) callerA (.call (.ref fa) ⟨[.ref a], []⟩) (fun res s' => res = .ok (.ret (.bool true)) ∧ OldK s1.heap s'.heap ∧ s'.os = s1.os ∧ AllBare s'.gens) s1 := by
    intro T apart sq good
    have maps : ∀ {c : Addr} {m : Str → Option Value}, s1.heap.Ns c m → (hidT s1.heap T).Ns c m := by
      rintro c m ⟨o, es, ep, e, d, rest⟩
      rcases apart c with z | ⟨z, _⟩
      · exact ⟨o, es, ep, hidT_get e z, d, rest⟩
      · subst z
        rw [obj] at e
        cases e
        have bad : Data.seq its.toArray _ = Data.dict es ep := d
        cases bad
    have part : K.In (hidT s1.heap T) := by
      intro c o e
      rcases apart c with z | ⟨z, n, _⟩
      · exact hidT_get (inK c o e) z
      · subst z
        rw [n] at e
        cases e
    obtain ⟨mc, lim1, lim2⟩ := lim
    have env : Env0 P w K mg (hidT s1.heap T) callerA [] s1 T :=
      ⟨rfl, ⟨part, maps glob, ⟨mb, maps bns, boot⟩, mc, maps lim1, lim2⟩, fun c o e => of_hidT e, Nat.le_of_eq (hidT_size _ _), trivial, fun c hc => absurd (show c ∈ ([] : List Addr) from hc) List.not_mem_nil, good, .of_eq nog⟩
    refine codeAny_mono ((Fn (hidT s1.heap T)).run callerA [] s1 T ⟨[.ref a], []⟩ [.ref a] [.ref a] (fun v _ => v = .bl true) E0 room quiet env (bind s1 (.ref a)) (.cons rfl .nil) (say T sq)) fun res s' told => ?_
    match res, told with
    | .error e, told => exact False.elim told
    | .ok .next, told => exact False.elim told
    | .ok .brk, told => exact False.elim told
    | .ok .cont, told => exact False.elim told
    | .ok (.ret u), ⟨v, H', os, bare, same, _, ru, q⟩ =>
      have q : v = .bl true := q
      subst q
      obtain rfl : u = Value.bool true := ru
      rename_i good'
      refine ⟨rfl, OldK.of_keep fun c o e => ?_, os, bare⟩
      rcases apart c with z | ⟨_, _, ob, ys, z⟩
      · exact same.keep c o e z (fun y => absurd (show c ∈ ([] : List Addr) from y) List.not_mem_nil) List.not_mem_nil
      · obtain ⟨e1, _⟩ := good c _ z
        obtain ⟨e2, _⟩ := good' c _ (same.frzs c ob _ z)
        rw [e] at e1
        cases e1
        exact e2
  cases own : K.lookup a with
  | some o =>
    have e := inK a o own
    rw [obj] at e
    cases e
    exact going (fun _ => none) (fun _ => .inl rfl) (.inr ⟨_, its.toArray, _, own, rfl, rfl, rfl, by rw [List.size_toArray, are.length]; exact short, by simpa using vals⟩) fun c u z => nomatch (show (none : Option HO) = some u from z)
  | none =>
    refine going (fun c => if c = a then some (.frz { cls := .type "list", data := .seq its.toArray } (.lst (ns.map V.int))) else none) (fun c => ?_) (.inl (.inr ⟨_, if_pos rfl⟩)) fun c u z => ?_
    · by_cases hc : c = a
      · exact .inr ⟨hc, own, _, _, if_pos hc⟩
      · exact .inl (if_neg hc)
    · by_cases hc : c = a
      · cases (if_pos hc).symm.trans z
        subst hc
        exact ⟨obj, by rw [List.length_map]; exact short, its, _, vals, obj⟩
      · cases (if_neg hc).symm.trans z
/-- the head's goal from the law's promise -/
theorem walkG {l : PySem.W.OpenLaw} {n k : Nat} {q : Program} {loose : List Str} {XP : (Str → Option Value) → Heap → Prop} {YP : World → Heap → Prop} {d : DefRec} {K : Params → PySem.W.Frag} {sp : PySem.W.Frag → Sp} {x : Str}
    (most : l.most = some n) (fits : n ≤ sizeLine) (plain : d.params.defaults = []) (room : Room k callerA) (quiet : callerA.guards = some []) (hY : ∀ (w : World) (h : Heap), YP w h → (K w.params).In h)
    (F : ∀ (w : World) (mg : Str → Option Value) (fa : Addr) (h : Heap), (K w.params).In h → h.Ns mainGlobals mg → mg d.name = some (.ref fa) →
      ∃ fd : FuncData, (∀ (s : Shared) (u : Value), BindsTo s fd ⟨[u], []⟩ [(x, u)]) ∧ ∀ base : Heap, FnG l.prog w (K w.params) mg base k fa fd [x] (sp (K w.params)))
    (say : ∀ (K : PySem.W.Frag) (T : Hp) (a : Addr) (ns : List Int), ns.length ≤ n → SqL K T a (ns.map V.int) → sp K [.ref a] T (fun v _ => v = .bl true) E0) : PySem.W.WalkO q loose XP YP l.row.toRowW d [] (fun f vs => PySem.call f vs) :=
  Att.attach_call most plain fun w s0 s1 mg mb fa o pm cd doc a its ns G Y ho hd hcd hmg hobj hints hlen hg => by
    obtain ⟨fd, bind, Fn⟩ := F w mg fa _ (hY w _ Y) G.T.g hmg
    exact runG (hY w _ Y) G.T.g G.T.b G.T.builtins G.T.nolimit hg hobj hints (Nat.le_trans hlen fits) room quiet Fn bind fun T sq => say _ T a ns hlen sq

theorem all_law {P : Program} {w : World} {K : PySem.W.Frag} {mg : Str → Option Value} {fa : Addr} (hfa : mg "law" = some (.ref fa)) (B : BI mg) (C : Cs K mg)
    (h0 : Stands K mg "is_whole" s_is_whole)
    (h1 : Stands K mg "is_from" s_is_from)
    (h2 : Stands K mg "check_sizes" s_check_sizes)
    (h3 : Stands K mg "is_weights" s_is_weights)
    (h4 : Stands K mg "is_terms" s_is_terms)
    (h5 : Stands K mg "is_sum" s_is_sum)
    (h6 : Stands K mg "is_set" s_is_set)
    (h7 : Stands K mg "check_sums" s_check_sums)
    (h8 : Stands K mg "is_pair" s_is_pair)
    (h9 : Stands K mg "check_fixed" s_check_fixed)
    (h10 : Stands K mg "check_problem" s_check_problem)
    (h11 : Stands K mg "values_of" s_values_of)
    (h12 : Stands K mg "bits_of" s_bits_of)
    (h13 : Stands K mg "bits_above" s_bits_above)
    (h14 : Stands K mg "top_of" s_top_of)
    (h15 : Stands K mg "first_sets" s_first_sets)
    (h16 : Stands K mg "told_sets" s_told_sets)
    (h17 : Stands K mg "narrow" s_narrow)
    (h18 : Stands K mg "tops_of" s_tops_of)
    (h19 : Stands K mg "look" s_look)
    (h20 : Stands K mg "begun" s_begun)
    (h21 : Stands K mg "narrowed" s_narrowed)
    (h22 : Stands K mg "_law_mixed" s__law_mixed)
    (h23 : Stands K mg "_law_begin" s__law_begin)
    (h24 : Stands K mg "_law_draw" s__law_draw)
    (h25 : Stands K mg "_law_form" s__law_form)
    (h26 : Stands K mg "_law_lots" s__law_lots)
    (h27 : Stands K mg "_law_sum" s__law_sum)
    (h28 : Stands K mg "_law_fixed" s__law_fixed)
    (h29 : Stands K mg "_law_lets" s__law_lets)
    (h30 : Stands K mg "_law_weight" s__law_weight)
    (h31 : Stands K mg "_law_rows" s__law_rows)
    (h32 : Stands K mg "_law_within" s__law_within)
    (h33 : Stands K mg "_law_keeping" s__law_keeping)
    (h34 : Stands K mg "_law_tops" s__law_tops)
    (h35 : Stands K mg "_law_taken" s__law_taken)
    (h36 : Stands K mg "_law_left" s__law_left)
    (h37 : Stands K mg "_law_like" s__law_like)
    (h38 : Stands K mg "_law_right" s__law_right)
    (h39 : Stands K mg "_law_by_hand" s__law_by_hand)
    (h40 : Stands K mg "law" s_law) :
    ∃ fd : FuncData, (∀ (s : Shared) (v : Value), BindsTo s fd ⟨[v], []⟩ [("_law_script", v)]) ∧ ∀ base : Heap, FnG P w K mg base 10 fa fd ["_law_script"] (sp_law K) := by
  obtain ⟨f0, d0, m0, F0⟩ := h0
  have b0 := F0.binds (ps := ["value"]) fun _ _ _ _ _ _ us hl => match us, hl with | [_], _ => rfl
  obtain ⟨f1, d1, m1, F1⟩ := h1
  have b1 := F1.binds (ps := ["value", "low", "high"]) fun _ _ _ _ _ _ us hl => match us, hl with | [_, _, _], _ => rfl
  obtain ⟨f2, d2, m2, F2⟩ := h2
  have b2 := F2.binds (ps := ["value"]) fun _ _ _ _ _ _ us hl => match us, hl with | [_], _ => rfl
  obtain ⟨f3, d3, m3, F3⟩ := h3
  have b3 := F3.binds (ps := ["value", "size"]) fun _ _ _ _ _ _ us hl => match us, hl with | [_, _], _ => rfl
  obtain ⟨f4, d4, m4, F4⟩ := h4
  have b4 := F4.binds (ps := ["sizes", "value"]) fun _ _ _ _ _ _ us hl => match us, hl with | [_, _], _ => rfl
  obtain ⟨f5, d5, m5, F5⟩ := h5
  have b5 := F5.binds (ps := ["sizes", "value"]) fun _ _ _ _ _ _ us hl => match us, hl with | [_, _], _ => rfl
  obtain ⟨f6, d6, m6, F6⟩ := h6
  have b6 := F6.binds (ps := ["value", "size"]) fun _ _ _ _ _ _ us hl => match us, hl with | [_, _], _ => rfl
  obtain ⟨f7, d7, m7, F7⟩ := h7
  have b7 := F7.binds (ps := ["sizes", "value"]) fun _ _ _ _ _ _ us hl => match us, hl with | [_, _], _ => rfl
  obtain ⟨f8, d8, m8, F8⟩ := h8
  have b8 := F8.binds (ps := ["sizes", "value"]) fun _ _ _ _ _ _ us hl => match us, hl with | [_, _], _ => rfl
  obtain ⟨f9, d9, m9, F9⟩ := h9
  have b9 := F9.binds (ps := ["sizes", "value"]) fun _ _ _ _ _ _ us hl => match us, hl with | [_, _], _ => rfl
  obtain ⟨f10, d10, m10, F10⟩ := h10
  have b10 := F10.binds (ps := ["sizes", "sums", "fixed"]) fun _ _ _ _ _ _ us hl => match us, hl with | [_, _, _], _ => rfl
  obtain ⟨f11, d11, m11, F11⟩ := h11
  have b11 := F11.binds (ps := ["bits"]) fun _ _ _ _ _ _ us hl => match us, hl with | [_], _ => rfl
  obtain ⟨f12, d12, m12, F12⟩ := h12
  have b12 := F12.binds (ps := ["values"]) fun _ _ _ _ _ _ us hl => match us, hl with | [_], _ => rfl
  obtain ⟨f13, d13, m13, F13⟩ := h13
  have b13 := F13.binds (ps := ["weights", "low"]) fun _ _ _ _ _ _ us hl => match us, hl with | [_, _], _ => rfl
  obtain ⟨f14, d14, m14, F14⟩ := h14
  have b14 := F14.binds (ps := ["weights", "bits"]) fun _ _ _ _ _ _ us hl => match us, hl with | [_, _], _ => rfl
  obtain ⟨f15, d15, m15, F15⟩ := h15
  have b15 := F15.binds (ps := ["sizes", "fixed"]) fun _ _ _ _ _ _ us hl => match us, hl with | [_, _], _ => rfl
  obtain ⟨f16, d16, m16, F16⟩ := h16
  have b16 := F16.binds (ps := ["sets"]) fun _ _ _ _ _ _ us hl => match us, hl with | [_], _ => rfl
  obtain ⟨f17, d17, m17, F17⟩ := h17
  have b17 := F17.binds (ps := ["state", "choice", "bits", "reason"]) fun _ _ _ _ _ _ us hl => match us, hl with | [_, _, _, _], _ => rfl
  obtain ⟨f18, d18, m18, F18⟩ := h18
  have b18 := F18.binds (ps := ["state", "number"]) fun _ _ _ _ _ _ us hl => match us, hl with | [_, _], _ => rfl
  obtain ⟨f19, d19, m19, F19⟩ := h19
  have b19 := F19.binds (ps := ["state", "number"]) fun _ _ _ _ _ _ us hl => match us, hl with | [_, _], _ => rfl
  obtain ⟨f20, d20, m20, F20⟩ := h20
  have b20 := F20.binds (ps := ["sizes", "sums", "fixed"]) fun _ _ _ _ _ _ us hl => match us, hl with | [_, _, _], _ => rfl
  obtain ⟨f21, d21, m21, F21⟩ := h21
  have b21 := F21.binds (ps := ["sizes", "sums", "fixed"]) fun _ _ _ _ _ _ us hl => match us, hl with | [_, _, _], _ => rfl
  obtain ⟨f22, d22, m22, F22⟩ := h22
  have b22 := F22.binds (ps := ["_law_cell", "_law_k"]) fun _ _ _ _ _ _ us hl => match us, hl with | [_, _], _ => rfl
  obtain ⟨f23, d23, m23, F23⟩ := h23
  have b23 := F23.binds (ps := ["_law_script"]) fun _ _ _ _ _ _ us hl => match us, hl with | [_], _ => rfl
  obtain ⟨f24, d24, m24, F24⟩ := h24
  have b24 := F24.binds (ps := ["_law_state", "_law_limit"]) fun _ _ _ _ _ _ us hl => match us, hl with | [_, _], _ => rfl
  obtain ⟨f25, d25, m25, F25⟩ := h25
  have b25 := F25.binds (ps := ["_law_terms_so", "_law_bound_so"]) fun _ _ _ _ _ _ us hl => match us, hl with | [_, _], _ => rfl
  obtain ⟨f26, d26, m26, F26⟩ := h26
  have b26 := F26.binds (ps := ["_law_state"]) fun _ _ _ _ _ _ us hl => match us, hl with | [_], _ => rfl
  obtain ⟨f27, d27, m27, F27⟩ := h27
  have b27 := F27.binds (ps := ["_law_state", "_law_lots_here"]) fun _ _ _ _ _ _ us hl => match us, hl with | [_, _], _ => rfl
  obtain ⟨f28, d28, m28, F28⟩ := h28
  have b28 := F28.binds (ps := ["_law_state", "_law_lots_here"]) fun _ _ _ _ _ _ us hl => match us, hl with | [_, _], _ => rfl
  obtain ⟨f29, d29, m29, F29⟩ := h29
  have b29 := F29.binds (ps := ["_law_lots_here", "_law_fixed_so"]) fun _ _ _ _ _ _ us hl => match us, hl with | [_, _], _ => rfl
  obtain ⟨f30, d30, m30, F30⟩ := h30
  have b30 := F30.binds (ps := ["_law_told", "_law_row_so"]) fun _ _ _ _ _ _ us hl => match us, hl with | [_, _], _ => rfl
  obtain ⟨f31, d31, m31, F31⟩ := h31
  have b31 := F31.binds (ps := ["_law_sizes_so"]) fun _ _ _ _ _ _ us hl => match us, hl with | [_], _ => rfl
  obtain ⟨f32, d32, m32, F32⟩ := h32
  have b32 := F32.binds (ps := ["_law_lets_so", "_law_row_so"]) fun _ _ _ _ _ _ us hl => match us, hl with | [_, _], _ => rfl
  obtain ⟨f33, d33, m33, F33⟩ := h33
  have b33 := F33.binds (ps := ["_law_lots_here", "_law_sums_so", "_law_lets_so"]) fun _ _ _ _ _ _ us hl => match us, hl with | [_, _, _], _ => rfl
  obtain ⟨f34, d34, m34, F34⟩ := h34
  have b34 := F34.binds (ps := ["_law_told", "_law_lets_so"]) fun _ _ _ _ _ _ us hl => match us, hl with | [_, _], _ => rfl
  obtain ⟨f35, d35, m35, F35⟩ := h35
  have b35 := F35.binds (ps := ["_law_sums_so", "_law_lets_so", "_law_choice_so", "_law_worth"]) fun _ _ _ _ _ _ us hl => match us, hl with | [_, _, _, _], _ => rfl
  obtain ⟨f36, d36, m36, F36⟩ := h36
  have b36 := F36.binds (ps := ["_law_lots_here", "_law_sums_so", "_law_fixed_so"]) fun _ _ _ _ _ _ us hl => match us, hl with | [_, _, _], _ => rfl
  obtain ⟨f37, d37, m37, F37⟩ := h37
  have b37 := F37.binds (ps := ["_law_got", "_law_due"]) fun _ _ _ _ _ _ us hl => match us, hl with | [_, _], _ => rfl
  obtain ⟨f38, d38, m38, F38⟩ := h38
  have b38 := F38.binds (ps := ["_law_state"]) fun _ _ _ _ _ _ us hl => match us, hl with | [_], _ => rfl
  obtain ⟨f39, d39, m39, F39⟩ := h39
  have b39 := F39.binds (ps := []) fun _ _ _ _ _ _ us hl => match us, hl with | [], _ => rfl
  obtain ⟨f40, d40, m40, F40⟩ := h40
  have ef := hfa.symm.trans m40
  cases ef
  refine ⟨d40, ?_, fun base => ?_⟩
  · obtain ⟨oc, od, kV, doc, pm, an, cdv, ct, osl, rfl, lk, hcd⟩ := F40.ex
    exact fun s v => .of_eq rfl
  · have D_is_whole : Dk P w K mg base 1 "is_whole" ["value"] sp_is_whole := dk_mk m0 F0 b0 (ok_is_whole F0 B)
    have D_is_from : Dk P w K mg base 2 "is_from" ["value", "low", "high"] sp_is_from := dk_mk m1 F1 b1 (ok_is_from F1 D_is_whole)
    have D_check_sizes : Dk P w K mg base 3 "check_sizes" ["value"] (sp_check_sizes K) := dk_mk m2 F2 b2 (ok_check_sizes F2 B C D_is_from)
    have D_is_weights : Dk P w K mg base 3 "is_weights" ["value", "size"] (sp_is_weights K) := dk_mk m3 F3 b3 (ok_is_weights F3 B D_is_whole)
    have D_is_terms : Dk P w K mg base 4 "is_terms" ["sizes", "value"] (sp_is_terms K) := dk_mk m4 F4 b4 (ok_is_terms F4 B D_is_from D_is_weights)
    have D_is_sum : Dk P w K mg base 5 "is_sum" ["sizes", "value"] (sp_is_sum K) := dk_mk m5 F5 b5 (ok_is_sum F5 B C D_is_whole D_is_terms)
    have D_is_set : Dk P w K mg base 3 "is_set" ["value", "size"] (sp_is_set K) := dk_mk m6 F6 b6 (ok_is_set F6 B D_is_from)
    have D_check_sums : Dk P w K mg base 6 "check_sums" ["sizes", "value"] (sp_check_sums K) := dk_mk m7 F7 b7 (ok_check_sums F7 B C D_is_sum)
    have D_is_pair : Dk P w K mg base 4 "is_pair" ["sizes", "value"] (sp_is_pair K) := dk_mk m8 F8 b8 (ok_is_pair F8 B D_is_from D_is_set)
    have D_check_fixed : Dk P w K mg base 5 "check_fixed" ["sizes", "value"] (sp_check_fixed K) := dk_mk m9 F9 b9 (ok_check_fixed F9 B D_is_pair)
    have D_check_problem : Dk P w K mg base 7 "check_problem" ["sizes", "sums", "fixed"] (sp_check_problem K) := dk_mk m10 F10 b10 (ok_check_problem F10 D_check_sizes D_check_sums D_check_fixed)
    have D_values_of : Dk P w K mg base 1 "values_of" ["bits"] (sp_values_of K) := dk_mk m11 F11 b11 (ok_values_of F11 B)
    have D_bits_of : Dk P w K mg base 1 "bits_of" ["values"] (sp_bits_of K) := dk_mk m12 F12 b12 (ok_bits_of F12 )
    have D_bits_above : Dk P w K mg base 2 "bits_above" ["weights", "low"] (sp_bits_above K) := dk_mk m13 F13 b13 (ok_bits_above F13 B D_bits_of)
    have D_top_of : Dk P w K mg base 2 "top_of" ["weights", "bits"] (sp_top_of K) := dk_mk m14 F14 b14 (ok_top_of F14 B D_values_of)
    have D_first_sets : Dk P w K mg base 2 "first_sets" ["sizes", "fixed"] (sp_first_sets K) := dk_mk m15 F15 b15 (ok_first_sets F15 B D_bits_of)
    have D_told_sets : Dk P w K mg base 2 "told_sets" ["sets"] (sp_told_sets K) := dk_mk m16 F16 b16 (ok_told_sets F16 B D_values_of)
    have D_narrow : Dk P w K mg base 1 "narrow" ["state", "choice", "bits", "reason"] (sp_narrow K) := dk_mk m17 F17 b17 (ok_narrow F17 )
    have D_tops_of : Dk P w K mg base 3 "tops_of" ["state", "number"] (sp_tops_of K) := dk_mk m18 F18 b18 (ok_tops_of F18 D_top_of)
    have D_look : Dk P w K mg base 4 "look" ["state", "number"] (sp_look K) := dk_mk m19 F19 b19 (ok_look F19 B D_tops_of D_bits_above D_narrow)
    have D_begun : Dk P w K mg base 3 "begun" ["sizes", "sums", "fixed"] (sp_begun K) := dk_mk m20 F20 b20 (ok_begun F20 B D_first_sets)
    have D_narrowed : Dk P w K mg base 8 "narrowed" ["sizes", "sums", "fixed"] (sp_narrowed K) := dk_mk m21 F21 b21 (ok_narrowed F21 B D_check_problem D_begun D_look D_told_sets)
    have D__law_mixed : Dk P w K mg base 1 "_law_mixed" ["_law_cell", "_law_k"] sp_mixed := dk_mk m22 F22 b22 (ok__law_mixed F22 B)
    have D__law_begin : Dk P w K mg base 1 "_law_begin" ["_law_script"] (sp_begin K) := dk_mk m23 F23 b23 (ok__law_begin F23 B)
    have D__law_draw : Dk P w K mg base 2 "_law_draw" ["_law_state", "_law_limit"] sp_draw := dk_mk m24 F24 b24 (ok__law_draw F24 B D__law_mixed)
    have D__law_form : Dk P w K mg base 1 "_law_form" ["_law_terms_so", "_law_bound_so"] (sp_form K) := dk_mk m25 F25 b25 (ok__law_form F25 B)
    have D__law_lots : Dk P w K mg base 3 "_law_lots" ["_law_state"] (sp_lots K) := dk_mk m26 F26 b26 (ok__law_lots F26 B D__law_draw)
    have D__law_sum : Dk P w K mg base 3 "_law_sum" ["_law_state", "_law_lots_here"] (sp_sum K) := dk_mk m27 F27 b27 (ok__law_sum F27 B D__law_draw D__law_form)
    have D__law_fixed : Dk P w K mg base 3 "_law_fixed" ["_law_state", "_law_lots_here"] (sp_fixed K) := dk_mk m28 F28 b28 (ok__law_fixed F28 B D__law_draw)
    have D__law_lets : Dk P w K mg base 1 "_law_lets" ["_law_lots_here", "_law_fixed_so"] (sp_lets K) := dk_mk m29 F29 b29 (ok__law_lets F29 B)
    have D__law_weight : Dk P w K mg base 1 "_law_weight" ["_law_told", "_law_row_so"] (sp_weight K) := dk_mk m30 F30 b30 (ok__law_weight F30 B)
    have D__law_rows : Dk P w K mg base 1 "_law_rows" ["_law_sizes_so"] (sp_rows K) := dk_mk m31 F31 b31 (ok__law_rows F31 B)
    have D__law_within : Dk P w K mg base 1 "_law_within" ["_law_lets_so", "_law_row_so"] (sp_within K) := dk_mk m32 F32 b32 (ok__law_within F32 B)
    have D__law_keeping : Dk P w K mg base 2 "_law_keeping" ["_law_lots_here", "_law_sums_so", "_law_lets_so"] (sp_keeping K) := dk_mk m33 F33 b33 (ok__law_keeping F33 B D__law_rows D__law_weight D__law_within)
    have D__law_tops : Dk P w K mg base 1 "_law_tops" ["_law_told", "_law_lets_so"] (sp_tops K) := dk_mk m34 F34 b34 (ok__law_tops F34 B)
    have D__law_taken : Dk P w K mg base 2 "_law_taken" ["_law_sums_so", "_law_lets_so", "_law_choice_so", "_law_worth"] (sp_taken K) := dk_mk m35 F35 b35 (ok__law_taken F35 B D__law_tops)
    have D__law_left : Dk P w K mg base 3 "_law_left" ["_law_lots_here", "_law_sums_so", "_law_fixed_so"] (sp_left K) := dk_mk m36 F36 b36 (ok__law_left F36 B D__law_lets D__law_tops D__law_taken)
    have D__law_like : Dg P w K mg base 1 "_law_like" ["_law_got", "_law_due"] (sp_like K) := dg_mk m37 F37 b37 (ok__law_like F37 B)
    have D__law_right : Dg P w K mg base 9 "_law_right" ["_law_state"] sp_right := dg_mk m38 F38 b38 (ok__law_right F38 B D__law_draw D__law_within D__law_lets D__law_lots D__law_sum D__law_fixed D__law_left D_narrowed D__law_keeping D__law_like)
    have D__law_by_hand : Dg P w K mg base 9 "_law_by_hand" [] sp_hand := dg_mk m39 F39 b39 (ok__law_by_hand F39 B D_narrowed D__law_like)
    exact ok_law F40 B D__law_begin D__law_right D__law_by_hand
end K36
end
open PySem PySem.W PyProof.Rows
set_option maxHeartbeats 0 in
theorem PySem.Challenge.cw_besthours_k36_whole_values_that_can_not_holds : PySem.Challenge.rw_besthours_k36_whole_values_that_can_not.Holds := by
  w_on; o_law; k_head; (case hw => w_witness2)
  k_fill
  refine K36.walkG (l := PySem.Challenge.rw_besthours_k36_whole_values_that_can_not) (n := 63) (k := 10) (x := "_law_script") (sp := fun K => K36.sp_law K) rfl (by decide) rfl ⟨rfl, by decide, by decide⟩ rfl (fun w h Y => PySem.W.kIn_of Y) ?F (fun K H a ns hl hS => ⟨a, ns, rfl, hS, by omega, fun _ => rfl⟩)
  case F =>
    intro w mg fa h KX G hmg
    refine' K36.all_law hmg ?B ?C ?h0 ?h1 ?h2 ?h3 ?h4 ?h5 ?h6 ?h7 ?h8 ?h9 ?h10 ?h11 ?h12 ?h13 ?h14 ?h15 ?h16 ?h17 ?h18 ?h19 ?h20 ?h21 ?h22 ?h23 ?h24 ?h25 ?h26 ?h27 ?h28 ?h29 ?h30 ?h31 ?h32 ?h33 ?h34 ?h35 ?h36 ?h37 ?h38 ?h39 ?h40
    case B => refine' K36.BI.mk ?_ ?_ ?_ ?_ ?_ ?_ ?_ ?_ ?_ ?_ ?_ ?_ ?_ ?_ <;> refine' PySem.W.mg_none_of KX G ?_ <;> k_is
    case C =>
      refine' K36.cs_mk KX G ?c1 ?c2 ?c3 ?c4 ?c5 ?c6
      (case c1 => k_is); (case c2 => k_is); (case c3 => k_is); (case c4 => k_is); (case c5 => k_is); (case c6 => k_is)
    case h0 =>
      refine' K36.stands_mk KX G ?a ?l ?c ?k
      (case a => k_is); (case l => k_is); (case c => k_is); (case k => k_is)
    case h1 =>
      refine' K36.stands_mk KX G ?a ?l ?c ?k
      (case a => k_is); (case l => k_is); (case c => k_is); (case k => k_is)
    case h2 =>
      refine' K36.stands_mk KX G ?a ?l ?c ?k
      (case a => k_is); (case l => k_is); (case c => k_is); (case k => k_is)
    case h3 =>
      refine' K36.stands_mk KX G ?a ?l ?c ?k
      (case a => k_is); (case l => k_is); (case c => k_is); (case k => k_is)
    case h4 =>
      refine' K36.stands_mk KX G ?a ?l ?c ?k
      (case a => k_is); (case l => k_is); (case c => k_is); (case k => k_is)
    case h5 =>
      refine' K36.stands_mk KX G ?a ?l ?c ?k
      (case a => k_is); (case l => k_is); (case c => k_is); (case k => k_is)
    case h6 =>
      refine' K36.stands_mk KX G ?a ?l ?c ?k
      (case a => k_is); (case l => k_is); (case c => k_is); (case k => k_is)
    case h7 =>
      refine' K36.stands_mk KX G ?a ?l ?c ?k
      (case a => k_is); (case l => k_is); (case c => k_is); (case k => k_is)
    case h8 =>
      refine' K36.stands_mk KX G ?a ?l ?c ?k
      (case a => k_is); (case l => k_is); (case c => k_is); (case k => k_is)
    case h9 =>
      refine' K36.stands_mk KX G ?a ?l ?c ?k
      (case a => k_is); (case l => k_is); (case c => k_is); (case k => k_is)
    case h10 =>
      refine' K36.stands_mk KX G ?a ?l ?c ?k
      (case a => k_is); (case l => k_is); (case c => k_is); (case k => k_is)
    case h11 =>
      refine' K36.stands_mk KX G ?a ?l ?c ?k
      (case a => k_is); (case l => k_is); (case c => k_is); (case k => k_is)
    case h12 =>
      refine' K36.stands_mk KX G ?a ?l ?c ?k
      (case a => k_is); (case l => k_is); (case c => k_is); (case k => k_is)
    case h13 =>
      refine' K36.stands_mk KX G ?a ?l ?c ?k
      (case a => k_is); (case l => k_is); (case c => k_is); (case k => k_is)
    case h14 =>
      refine' K36.stands_mk KX G ?a ?l ?c ?k
      (case a => k_is); (case l => k_is); (case c => k_is); (case k => k_is)
    case h15 =>
      refine' K36.stands_mk KX G ?a ?l ?c ?k
      (case a => k_is); (case l => k_is); (case c => k_is); (case k => k_is)
    case h16 =>
      refine' K36.stands_mk KX G ?a ?l ?c ?k
      (case a => k_is); (case l => k_is); (case c => k_is); (case k => k_is)
    case h17 =>
      refine' K36.stands_mk KX G ?a ?l ?c ?k
      (case a => k_is); (case l => k_is); (case c => k_is); (case k => k_is)
    case h18 =>
      refine' K36.stands_mk KX G ?a ?l ?c ?k
      (case a => k_is); (case l => k_is); (case c => k_is); (case k => k_is)
    case h19 =>
      refine' K36.stands_mk KX G ?a ?l ?c ?k
      (case a => k_is); (case l => k_is); (case c => k_is); (case k => k_is)
    case h20 =>
      refine' K36.stands_mk KX G ?a ?l ?c ?k
      (case a => k_is); (case l => k_is); (case c => k_is); (case k => k_is)
    case h21 =>
      refine' K36.stands_mk KX G ?a ?l ?c ?k
      (case a => k_is); (case l => k_is); (case c => k_is); (case k => k_is)
    case h22 =>
      refine' K36.stands_mk KX G ?a ?l ?c ?k
      (case a => k_is); (case l => k_is); (case c => k_is); (case k => k_is)
    case h23 =>
      refine' K36.stands_mk KX G ?a ?l ?c ?k
      (case a => k_is); (case l => k_is); (case c => k_is); (case k => k_is)
    case h24 =>
      refine' K36.stands_mk KX G ?a ?l ?c ?k
      (case a => k_is); (case l => k_is); (case c => k_is); (case k => k_is)
    case h25 =>
      refine' K36.stands_mk KX G ?a ?l ?c ?k
      (case a => k_is); (case l => k_is); (case c => k_is); (case k => k_is)
    case h26 =>
      refine' K36.stands_mk KX G ?a ?l ?c ?k
      (case a => k_is); (case l => k_is); (case c => k_is); (case k => k_is)
    case h27 =>
      refine' K36.stands_mk KX G ?a ?l ?c ?k
      (case a => k_is); (case l => k_is); (case c => k_is); (case k => k_is)
    case h28 =>
      refine' K36.stands_mk KX G ?a ?l ?c ?k
      (case a => k_is); (case l => k_is); (case c => k_is); (case k => k_is)
    case h29 =>
      refine' K36.stands_mk KX G ?a ?l ?c ?k
      (case a => k_is); (case l => k_is); (case c => k_is); (case k => k_is)
    case h30 =>
      refine' K36.stands_mk KX G ?a ?l ?c ?k
      (case a => k_is); (case l => k_is); (case c => k_is); (case k => k_is)
    case h31 =>
      refine' K36.stands_mk KX G ?a ?l ?c ?k
      (case a => k_is); (case l => k_is); (case c => k_is); (case k => k_is)
    case h32 =>
      refine' K36.stands_mk KX G ?a ?l ?c ?k
      (case a => k_is); (case l => k_is); (case c => k_is); (case k => k_is)
    case h33 =>
      refine' K36.stands_mk KX G ?a ?l ?c ?k
      (case a => k_is); (case l => k_is); (case c => k_is); (case k => k_is)
    case h34 =>
      refine' K36.stands_mk KX G ?a ?l ?c ?k
      (case a => k_is); (case l => k_is); (case c => k_is); (case k => k_is)
    case h35 =>
      refine' K36.stands_mk KX G ?a ?l ?c ?k
      (case a => k_is); (case l => k_is); (case c => k_is); (case k => k_is)
    case h36 =>
      refine' K36.stands_mk KX G ?a ?l ?c ?k
      (case a => k_is); (case l => k_is); (case c => k_is); (case k => k_is)
    case h37 =>
      refine' K36.stands_mk KX G ?a ?l ?c ?k
      (case a => k_is); (case l => k_is); (case c => k_is); (case k => k_is)
    case h38 =>
      refine' K36.stands_mk KX G ?a ?l ?c ?k
      (case a => k_is); (case l => k_is); (case c => k_is); (case k => k_is)
    case h39 =>
      refine' K36.stands_mk KX G ?a ?l ?c ?k
      (case a => k_is); (case l => k_is); (case c => k_is); (case k => k_is)
    case h40 =>
      refine' K36.stands_mk KX G ?a ?l ?c ?k
      (case a => k_is); (case l => k_is); (case c => k_is); (case k => k_is)
