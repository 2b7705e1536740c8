import PyProof.Rows.All
import Wide.All
import OpenK.AllK
import Wide.FinOn
import KE.KStateDown
import Lean
import KE.KExcSuper
import HandS.ForMost
import HandS.ForExc
import HandS.Wide
import HandS.Codes
import HandS.Flow
import HandS.Defaults
import HandS.Words
import HandS.WordsExc
import HandS.Ends
import HandS.More
import HandS.Head0
import HandS.Head1
import HandS.Head2
import HandS.HeadEnd
import HandS.HeadHook1
import HandS.HeadHook2
import PySem.Challenge.RW_fewestlines_k38_whole_audits_of_cuttings
set_option Elab.async false
set_option linter.all false
set_option maxRecDepth 100000
set_option maxHeartbeats 4000000
namespace KG
abbrev P2 := Int × Int
def absI (m : Int) : Int := if m < 0 then -m else m
def mid (p q r : P2) : Int := q.2 * (r.1 - p.1) - p.2 * (r.1 - q.1) - r.2 * (q.1 - p.1)
def three (p q r : P2) (e : Int) : Bool := decide (absI (mid p q r) ≤ 2 * e * (r.1 - p.1))
theorem abs_le {m b : Int} : absI m ≤ b ↔ (-b ≤ m ∧ m ≤ b) := by
  unfold absI
  split <;> omega
theorem three_iff {p q r : P2} {e : Int} : three p q r e = true ↔ (-(2 * e * (r.1 - p.1)) ≤ mid p q r ∧ mid p q r ≤ 2 * e * (r.1 - p.1)) := by
  unfold three
  rw [decide_eq_true_iff, abs_le]
/-- the slope from p's top to q's bottom is at most that from a's bottom to b's top -/
def LU (e : Int) (p q a b : P2) : Prop := (q.2 - p.2 - 2 * e) * (b.1 - a.1) ≤ (b.2 - a.2 + 2 * e) * (q.1 - p.1)
theorem ftrans {a b c d f g : Int} (hd : 0 < d) (hb : 0 ≤ b) (hg : 0 ≤ g) (h1 : a * d ≤ c * b) (h2 : c * g ≤ f * d) : a * g ≤ f * b := by
  have e1 := Int.mul_le_mul_of_nonneg_right h1 hg
  have e2 := Int.mul_le_mul_of_nonneg_right h2 hb
  have : (a * g) * d ≤ (f * b) * d := by grind
  exact Int.le_of_mul_le_mul_right this hd
/-- a, b, n in a row, three fit: b's top is above the line of the bottoms of a and n -/
theorem tri_up {a b n : P2} {e : Int} (h : three a b n e = true) : (n.2 - a.2) * (b.1 - a.1) ≤ (b.2 - a.2 + 2 * e) * (n.1 - a.1) := by
  have h := (three_iff.mp h).1
  unfold mid at h
  grind
theorem tri_dn {a b n : P2} {e : Int} (h : three a b n e = true) : (b.2 - a.2 - 2 * e) * (n.1 - a.1) ≤ (n.2 - a.2) * (b.1 - a.1) := by
  have h := (three_iff.mp h).2
  unfold mid at h
  grind
theorem step1 {i a b n : P2} {e : Int} (he : 0 ≤ e) (hab : a.1 < b.1) (hin : i.1 < n.1) (hbn : b.1 < n.1) (t1 : three a b n e = true)
    (eq : i.1 = a.1 → i = a) (old : i.1 < a.1 → LU e i a a b) (t2 : a.1 < i.1 → three a i n e = true) : LU e i n a b := by
  have h1 := tri_up t1
  unfold LU at *
  rcases Int.lt_trichotomy i.1 a.1 with h | h | h
  · have h2 := old h
    grind
  · have h2 := eq h
    subst h2
    have p1 : 0 ≤ e * (b.1 - i.1) := Int.mul_nonneg he (by omega)
    grind
  · have h2 := tri_up (t2 h)
    by_cases c : (b.2 - a.2 + 2 * e) * (i.1 - a.1) ≤ (i.2 - a.2 + 2 * e) * (b.1 - a.1)
    · grind
    · have h3 : (n.2 - i.2 - 2 * e) * (i.1 - a.1) ≤ (i.2 - a.2 + 2 * e) * (n.1 - i.1) := by grind
      exact ftrans (d := i.1 - a.1) (c := i.2 - a.2 + 2 * e) (by omega) (by omega) (by omega) h3 (by grind)
def neg (p : P2) : P2 := (p.1, -p.2)
theorem LU_neg {e : Int} {p q a b : P2} : LU e (neg a) (neg b) (neg p) (neg q) ↔ LU e p q a b := by
  unfold LU neg
  constructor <;> intro h <;> grind
theorem mid_neg {p q r : P2} : mid (neg p) (neg q) (neg r) = - mid p q r := by
  unfold mid neg
  grind
theorem three_neg {p q r : P2} {e : Int} : three (neg p) (neg q) (neg r) e = three p q r e := by
  rw [Bool.eq_iff_iff, three_iff, three_iff, mid_neg]
  show (-(2 * e * (r.1 - p.1)) ≤ _ ∧ _ ≤ 2 * e * (r.1 - p.1)) ↔ _
  constructor <;> intro h <;> constructor <;> omega
theorem step2 {i j a n : P2} {e : Int} (he : 0 ≤ e) (hij : i.1 < j.1) (han : a.1 < n.1) (hjn : j.1 < n.1) (t1 : three i j n e = true)
    (eq : a.1 = i.1 → a = i) (old : a.1 < i.1 → LU e i j a i) (t2 : i.1 < a.1 → three i a n e = true) : LU e i j a n :=
  LU_neg.mp (step1 (i := neg a) (a := neg i) (b := neg j) (n := neg n) he hij han hjn (by rw [three_neg]; exact t1) (fun h => by rw [eq h]) (fun h => LU_neg.mpr (old h))
    (fun h => by rw [three_neg]; exact t2 h))
theorem step3 {i a n : P2} {e : Int} (he : 0 ≤ e) (hin : i.1 < n.1) (han : a.1 < n.1) (eq : i.1 = a.1 → i = a) (t1 : i.1 < a.1 → three i a n e = true) (t2 : a.1 < i.1 → three a i n e = true) : LU e i n a n := by
  unfold LU
  have p1 : 0 ≤ e * (n.1 - a.1) := Int.mul_nonneg he (by omega)
  have p2 : 0 ≤ e * (n.1 - i.1) := Int.mul_nonneg he (by omega)
  rcases Int.lt_trichotomy i.1 a.1 with h | h | h
  · have h2 := tri_dn (t1 h)
    grind
  · have h2 := eq h
    subst h2
    grind
  · have h2 := tri_up (t2 h)
    grind
/-! ### sets of points -/
def PairsOK (e : Int) (l : List P2) : Prop := ∀ p ∈ l, ∀ q ∈ l, ∀ a ∈ l, ∀ b ∈ l, p.1 < q.1 → a.1 < b.1 → LU e p q a b
def TriOK (e : Int) (l : List P2) : Prop := ∀ p ∈ l, ∀ q ∈ l, ∀ r ∈ l, p.1 < q.1 → q.1 < r.1 → three p q r e = true
def Inj (l : List P2) : Prop := ∀ p ∈ l, ∀ q ∈ l, p.1 = q.1 → p = q
theorem pairs_step {e : Int} {l : List P2} {n : P2} (he : 0 ≤ e) (hj : Inj l) (h : PairsOK e l) (hn : ∀ p ∈ l, p.1 < n.1) (t : ∀ p ∈ l, ∀ q ∈ l, p.1 < q.1 → three p q n e = true) : PairsOK e (l ++ [n]) := by
  intro p hp q hq a ha b hb hpq hab
  have mem : ∀ {x : P2}, x ∈ l ++ [n] → x ∈ l ∨ x = n := fun hx => by simpa using hx
  rcases mem hp with gp | ep
  · rcases mem ha with ga | ea
    · rcases mem hq with gq | eq
      · rcases mem hb with gb | eb
        · exact h p gp q gq a ga b gb hpq hab
        · rw [eb]
          exact step2 he hpq (hn a ga) (hn q gq) (t p gp q gq hpq) (hj a ga p gp) (fun z => h p gp q gq a ga p gp hpq z) (fun z => t p gp a ga z)
      · rw [eq]
        rcases mem hb with gb | eb
        · exact step1 he hab (hn p gp) (hn b gb) (t a ga b gb hab) (hj p gp a ga) (fun z => h p gp a ga a ga b gb z hab) (fun z => t a ga p gp z)
        · rw [eb]
          exact step3 he (hn p gp) (hn a ga) (hj p gp a ga) (fun z => t p gp a ga z) (fun z => t a ga p gp z)
    · exfalso
      rw [ea] at hab
      rcases mem hb with gb | eb
      · have := hn b gb
        omega
      · rw [eb] at hab
        omega
  · exfalso
    rw [ep] at hpq
    rcases mem hq with gq | eq
    · have := hn q gq
      omega
    · rw [eq] at hpq
      omega
def Asc (l : List P2) : Prop := l.Pairwise fun p q => p.1 < q.1
theorem Asc.inj {l : List P2} (h : Asc l) : Inj l := by
  induction l with
  | nil => intro p hp; cases hp
  | cons x r ih =>
    have h' := List.pairwise_cons.mp h
    intro p hp q hq e
    rcases List.mem_cons.mp hp with ep | gp
    · rcases List.mem_cons.mp hq with eq | gq
      · rw [ep, eq]
      · have := h'.1 q gq
        rw [ep] at e
        omega
    · rcases List.mem_cons.mp hq with eq | gq
      · have := h'.1 p gp
        rw [eq] at e
        omega
      · exact ih h'.2 p gp q gq e
theorem asc_snoc {l : List P2} {n : P2} : Asc (l ++ [n]) ↔ Asc l ∧ ∀ p ∈ l, p.1 < n.1 := by
  unfold Asc
  rw [List.pairwise_append]
  simp
theorem pairs_nil {e : Int} : PairsOK e [] := fun p hp => by cases hp
theorem snoc_ind {α : Type} {M : List α → Prop} (h0 : M []) (hs : ∀ l a, M l → M (l ++ [a])) (l : List α) : M l := by
  have : ∀ (n : Nat) (l : List α), l.length = n → M l := by
    intro n
    induction n with
    | zero => intro l h; rw [List.length_eq_zero_iff.mp h]; exact h0
    | succ n ih =>
      intro l h
      have hne : l ≠ [] := by intro z; rw [z] at h; simp at h
      rw [← List.dropLast_concat_getLast hne]
      exact hs _ _ (ih _ (by rw [List.length_dropLast, h]; rfl))
  exact this _ l rfl
/-- points whose triples fit: each lower bound is at most each upper bound -/
theorem pairs_of_tri {e : Int} (he : 0 ≤ e) : ∀ l : List P2, Asc l → TriOK e l → PairsOK e l := by
  refine snoc_ind (fun _ _ => pairs_nil) (fun l n ih ha ht => ?_)
  obtain ⟨h1, h2⟩ := asc_snoc.mp ha
  have up : ∀ {x}, x ∈ l → x ∈ l ++ [n] := fun hx => List.mem_append_left _ hx
  have hn : n ∈ l ++ [n] := by simp
  exact pairs_step he h1.inj (ih h1 fun p hp q hq r hr => ht p (up hp) q (up hq) r (up hr)) h2 fun p hp q hq hpq => ht p (up hp) q (up hq) n hn hpq (h2 q hq)
/-- a line (p, q, d) -/
def near (p q d : Int) (pt : P2) (e : Int) : Bool := decide (absI (p * pt.1 + q - pt.2 * d) ≤ e * d)
theorem near_iff {p q d e : Int} {pt : P2} : near p q d pt e = true ↔ (-(e * d) ≤ p * pt.1 + q - pt.2 * d ∧ p * pt.1 + q - pt.2 * d ≤ e * d) := by
  unfold near
  rw [decide_eq_true_iff, abs_le]
/-- points near a line: triples fit -/
theorem three_of_near {p q d e : Int} {a b c : P2} (hd : 0 < d) (h1 : near p q d a e = true) (h2 : near p q d b e = true) (h3 : near p q d c e = true) (hab : a.1 < b.1) (hbc : b.1 < c.1) : three a b c e = true := by
  rw [near_iff] at h1 h2 h3
  rw [three_iff]
  unfold mid
  have A := h1; have B := h2; have C := h3
  have k1 : 0 ≤ c.1 - b.1 := by omega
  have k2 : 0 ≤ b.1 - a.1 := by omega
  have k3 : 0 ≤ c.1 - a.1 := by omega
  have a1 := Int.mul_le_mul_of_nonneg_right A.1 k1
  have a2 := Int.mul_le_mul_of_nonneg_right A.2 k1
  have c1 := Int.mul_le_mul_of_nonneg_right C.1 k2
  have c2 := Int.mul_le_mul_of_nonneg_right C.2 k2
  have b1 := Int.mul_le_mul_of_nonneg_right B.1 k3
  have b2 := Int.mul_le_mul_of_nonneg_right B.2 k3
  constructor
  · refine Int.le_of_mul_le_mul_right (a := d) ?_ hd
    grind
  · refine Int.le_of_mul_le_mul_right (a := d) ?_ hd
    grind
/-- a slope between all lower and all upper bounds; q the greatest of y d - e d - p x: the line fits -/
theorem near_of_slope {p d e q : Int} {l : List P2} (hd : 0 < d) (he : 0 ≤ e) (hj : Inj l) (hlo : ∀ a ∈ l, ∀ b ∈ l, a.1 < b.1 → (b.2 - a.2 - 2 * e) * d ≤ p * (b.1 - a.1)) (hup : ∀ a ∈ l, ∀ b ∈ l, a.1 < b.1 → p * (b.1 - a.1) ≤ (b.2 - a.2 + 2 * e) * d)
    {m : P2} (hm : m ∈ l) (hq : q = m.2 * d - e * d - p * m.1) (hmax : ∀ a ∈ l, a.2 * d - e * d - p * a.1 ≤ q) : ∀ a ∈ l, q ≤ a.2 * d + e * d - p * a.1 := by
  intro a ha
  subst hq
  have p1 : 0 ≤ e * d := Int.mul_nonneg he (by omega)
  rcases Int.lt_trichotomy a.1 m.1 with h | h | h
  · have := hlo a ha m hm h
    grind
  · have := hj a ha m hm h
    subst this
    grind
  · have := hup m hm a ha h
    grind
theorem near_low {p d e q : Int} {a : P2} (h1 : a.2 * d - e * d - p * a.1 ≤ q) (h2 : q ≤ a.2 * d + e * d - p * a.1) : near p q d a e = true := by
  rw [near_iff]
  constructor <;> omega
end KG
namespace KG
/-! ### the two extreme lines -/
structure FlatOK (e : Int) (pts : List P2) (f g : P2) : Prop where
  mf : f ∈ pts
  mg : g ∈ pts
  lt : f.1 < g.1
  top : ∀ p ∈ pts, ∀ q ∈ pts, p.1 < q.1 → (q.2 - p.2 - 2 * e) * (g.1 - f.1) ≤ (g.2 - f.2 - 2 * e) * (q.1 - p.1)
structure SteepOK (e : Int) (pts : List P2) (h k : P2) : Prop where
  mh : h ∈ pts
  mk_ : k ∈ pts
  lt : h.1 < k.1
  low : ∀ p ∈ pts, ∀ q ∈ pts, p.1 < q.1 → (k.2 - h.2 + 2 * e) * (q.1 - p.1) ≤ (q.2 - p.2 + 2 * e) * (k.1 - h.1)
section
variable {e : Int} {pts : List P2} {f g h k n : P2}
/-- tops are above the flattest line -/
theorem FlatOK.tops (F : FlatOK e pts f g) (P : PairsOK e pts) (J : Inj pts) (he : 0 ≤ e) : ∀ i ∈ pts, (g.2 - f.2 - 2 * e) * (i.1 - f.1) ≤ (i.2 - f.2) * (g.1 - f.1) := by
  intro i hi
  have p1 : 0 ≤ e * (g.1 - f.1) := Int.mul_nonneg he (by have := F.lt; omega)
  rcases Int.lt_trichotomy i.1 g.1 with c | c | c
  · have := F.top i hi g F.mg c
    grind
  · have := J i hi g F.mg c
    subst this
    grind
  · have := P f F.mf g F.mg g F.mg i hi F.lt c
    unfold LU at this
    grind
/-- bottoms are below the flattest line -/
theorem FlatOK.bots (F : FlatOK e pts f g) (P : PairsOK e pts) (J : Inj pts) (he : 0 ≤ e) : ∀ i ∈ pts, (i.2 - f.2 - 2 * e) * (g.1 - f.1) ≤ (g.2 - f.2 - 2 * e) * (i.1 - f.1) := by
  intro i hi
  have p1 : 0 ≤ e * (g.1 - f.1) := Int.mul_nonneg he (by have := F.lt; omega)
  rcases Int.lt_trichotomy i.1 f.1 with c | c | c
  · have := P f F.mf g F.mg i hi f F.mf F.lt c
    unfold LU at this
    grind
  · have := J i hi f F.mf c
    subst this
    grind
  · have := F.top f F.mf i hi c
    grind
theorem SteepOK.tops (F : SteepOK e pts h k) (P : PairsOK e pts) (J : Inj pts) (he : 0 ≤ e) : ∀ i ∈ pts, (k.2 - h.2 + 2 * e) * (i.1 - h.1) ≤ (i.2 - h.2 + 2 * e) * (k.1 - h.1) := by
  intro i hi
  have p1 : 0 ≤ e * (k.1 - h.1) := Int.mul_nonneg he (by have := F.lt; omega)
  rcases Int.lt_trichotomy i.1 h.1 with c | c | c
  · have := P i hi h F.mh h F.mh k F.mk_ c F.lt
    unfold LU at this
    grind
  · have := J i hi h F.mh c
    subst this
    grind
  · have := F.low h F.mh i hi c
    grind
theorem SteepOK.bots (F : SteepOK e pts h k) (P : PairsOK e pts) (J : Inj pts) (he : 0 ≤ e) : ∀ i ∈ pts, (i.2 - h.2) * (k.1 - h.1) ≤ (k.2 - h.2 + 2 * e) * (i.1 - h.1) := by
  intro i hi
  have p1 : 0 ≤ e * (k.1 - h.1) := Int.mul_nonneg he (by have := F.lt; omega)
  rcases Int.lt_trichotomy i.1 k.1 with c | c | c
  · have := F.low i hi k F.mk_ c
    grind
  · have := J i hi k F.mk_ c
    subst this
    grind
  · have := P k F.mk_ i hi h F.mh k F.mk_ c F.lt
    unfold LU at this
    grind
/-- the new point meets the lines between: its lower bounds are at most the steepest line's slope -/
theorem SteepOK.new (S : SteepOK e pts h k) (P : PairsOK e pts) (J : Inj pts) (he : 0 ≤ e) (nc : (n.2 - k.2 - 2 * e) * (k.1 - h.1) ≤ (k.2 - h.2 + 2 * e) * (n.1 - k.1)) : ∀ i ∈ pts, (n.2 - i.2 - 2 * e) * (k.1 - h.1) ≤ (k.2 - h.2 + 2 * e) * (n.1 - i.1) := by
  intro i hi
  have := S.tops P J he i hi
  grind
theorem FlatOK.new (F : FlatOK e pts f g) (P : PairsOK e pts) (J : Inj pts) (he : 0 ≤ e) (nc : (g.2 - f.2 - 2 * e) * (n.1 - g.1) ≤ (n.2 - g.2 + 2 * e) * (g.1 - f.1)) : ∀ i ∈ pts, (g.2 - f.2 - 2 * e) * (n.1 - i.1) ≤ (n.2 - i.2 + 2 * e) * (g.1 - f.1) := by
  intro i hi
  have := F.bots P J he i hi
  grind
theorem pairs_new (F : FlatOK e pts f g) (S : SteepOK e pts h k) (P : PairsOK e pts) (J : Inj pts) (he : 0 ≤ e) (hn : ∀ p ∈ pts, p.1 < n.1)
    (nc1 : (g.2 - f.2 - 2 * e) * (n.1 - g.1) ≤ (n.2 - g.2 + 2 * e) * (g.1 - f.1)) (nc2 : (n.2 - k.2 - 2 * e) * (k.1 - h.1) ≤ (k.2 - h.2 + 2 * e) * (n.1 - k.1)) : PairsOK e (pts ++ [n]) := by
  have lo := S.new P J he nc2
  have up := F.new P J he nc1
  have fl := F.lt
  have sl := S.lt
  intro p hp q hq a ha b hb hpq hab
  have mem : ∀ {x : P2}, x ∈ pts ++ [n] → x ∈ pts ∨ x = n := fun hx => by simpa using hx
  rcases mem hp with gp | ep
  · rcases mem ha with ga | ea
    · rcases mem hq with gq | eq
      · rcases mem hb with gb | eb
        · exact P p gp q gq a ga b gb hpq hab
        · rw [eb]
          have h1 := F.top p gp q gq hpq
          have h2 := up a ga
          have := hn a ga
          exact ftrans (d := g.1 - f.1) (c := g.2 - f.2 - 2 * e) (by omega) (by omega) (by omega) h1 h2
      · rw [eq]
        rcases mem hb with gb | eb
        · have h1 := lo p gp
          have h2 := S.low a ga b gb hab
          have := hn p gp
          exact ftrans (d := k.1 - h.1) (c := k.2 - h.2 + 2 * e) (by omega) (by omega) (by omega) h1 h2
        · rw [eb]
          have e1 := hn p gp
          have e2 := hn a ga
          have p1 : 0 ≤ e * (n.1 - a.1) := Int.mul_nonneg he (by omega)
          have p2 : 0 ≤ e * (n.1 - p.1) := Int.mul_nonneg he (by omega)
          unfold LU
          rcases Int.lt_trichotomy p.1 a.1 with c | c | c
          · have h1 := F.top p gp a ga c
            have h2 := up a ga
            have h3 := ftrans (d := g.1 - f.1) (c := g.2 - f.2 - 2 * e) (by omega) (by omega) (by omega) h1 h2
            grind
          · have := J p gp a ga c
            subst this
            grind
          · have h1 := lo p gp
            have h2 := S.low a ga p gp c
            have h3 := ftrans (d := k.1 - h.1) (c := k.2 - h.2 + 2 * e) (by omega) (by omega) (by omega) h1 h2
            grind
    · exfalso
      rw [ea] at hab
      rcases mem hb with gb | eb
      · have := hn b gb
        omega
      · rw [eb] at hab
        omega
  · exfalso
    rw [ep] at hpq
    rcases mem hq with gq | eq
    · have := hn q gq
      omega
    · rw [eq] at hpq
      omega
theorem mem2 {x : P2} (hx : x ∈ pts ++ [n]) : x ∈ pts ∨ x = n := by simpa using hx
theorem memL {x : P2} (hx : x ∈ pts) : x ∈ pts ++ [n] := List.mem_append_left _ hx
theorem memN : n ∈ pts ++ [n] := by simp
theorem FlatOK.keep (F : FlatOK e pts f g) (P : PairsOK e pts) (J : Inj pts) (he : 0 ≤ e) (hn : ∀ p ∈ pts, p.1 < n.1) (c : (n.2 - f.2 - 2 * e) * (g.1 - f.1) ≤ (g.2 - f.2 - 2 * e) * (n.1 - f.1)) : FlatOK e (pts ++ [n]) f g := by
  refine ⟨memL F.mf, memL F.mg, F.lt, fun p hp q hq hpq => ?_⟩
  rcases mem2 hp with gp | ep
  · rcases mem2 hq with gq | eq
    · exact F.top p gp q gq hpq
    · rw [eq]
      have := F.tops P J he p gp
      grind
  · exfalso
    rw [ep] at hpq
    rcases mem2 hq with gq | eq
    · have := hn q gq
      omega
    · rw [eq] at hpq
      omega
theorem SteepOK.keep (F : SteepOK e pts h k) (P : PairsOK e pts) (J : Inj pts) (he : 0 ≤ e) (hn : ∀ p ∈ pts, p.1 < n.1) (c : (k.2 - h.2 + 2 * e) * (n.1 - h.1) ≤ (n.2 - h.2 + 2 * e) * (k.1 - h.1)) : SteepOK e (pts ++ [n]) h k := by
  refine ⟨memL F.mh, memL F.mk_, F.lt, fun p hp q hq hpq => ?_⟩
  rcases mem2 hp with gp | ep
  · rcases mem2 hq with gq | eq
    · exact F.low p gp q gq hpq
    · rw [eq]
      have := F.bots P J he p gp
      grind
  · exfalso
    rw [ep] at hpq
    rcases mem2 hq with gq | eq
    · have := hn q gq
      omega
    · rw [eq] at hpq
      omega
theorem FlatOK.turn {b : P2} (F : FlatOK e pts f g) (hn : ∀ p ∈ pts, p.1 < n.1) (hb : b ∈ pts) (best : ∀ p ∈ pts, (n.2 - p.2 - 2 * e) * (n.1 - b.1) ≤ (n.2 - b.2 - 2 * e) * (n.1 - p.1))
    (c : (g.2 - f.2 - 2 * e) * (n.1 - f.1) ≤ (n.2 - f.2 - 2 * e) * (g.1 - f.1)) : FlatOK e (pts ++ [n]) b n := by
  refine ⟨memL hb, memN, hn b hb, fun p hp q hq hpq => ?_⟩
  rcases mem2 hp with gp | ep
  · rcases mem2 hq with gq | eq
    · have h1 := F.top p gp q gq hpq
      have h2 := best f F.mf
      have hf := hn f F.mf
      have hb' := hn b hb
      have fl := F.lt
      have h3 := ftrans (d := n.1 - f.1) (c := n.2 - f.2 - 2 * e) (by omega) (by omega) (by omega) c h2
      exact ftrans (d := g.1 - f.1) (c := g.2 - f.2 - 2 * e) (by omega) (by omega) (by omega) h1 h3
    · rw [eq]
      exact best p gp
  · exfalso
    rw [ep] at hpq
    rcases mem2 hq with gq | eq
    · have := hn q gq
      omega
    · rw [eq] at hpq
      omega
theorem SteepOK.turn {b : P2} (F : SteepOK e pts h k) (hn : ∀ p ∈ pts, p.1 < n.1) (hb : b ∈ pts) (best : ∀ p ∈ pts, (n.2 - b.2 + 2 * e) * (n.1 - p.1) ≤ (n.2 - p.2 + 2 * e) * (n.1 - b.1))
    (c : (n.2 - h.2 + 2 * e) * (k.1 - h.1) ≤ (k.2 - h.2 + 2 * e) * (n.1 - h.1)) : SteepOK e (pts ++ [n]) b n := by
  refine ⟨memL hb, memN, hn b hb, fun p hp q hq hpq => ?_⟩
  rcases mem2 hp with gp | ep
  · rcases mem2 hq with gq | eq
    · have h1 := F.low p gp q gq hpq
      have h2 := best h F.mh
      have hf := hn h F.mh
      have hb' := hn b hb
      have fl := F.lt
      have h3 := ftrans (d := n.1 - h.1) (c := n.2 - h.2 + 2 * e) (by omega) (by omega) (by omega) h2 c
      exact ftrans (d := k.1 - h.1) (c := k.2 - h.2 + 2 * e) (by omega) (by omega) (by omega) h3 h1
    · rw [eq]
      exact best p gp
  · exfalso
    rw [ep] at hpq
    rcases mem2 hq with gq | eq
    · have := hn q gq
      omega
    · rw [eq] at hpq
      omega
end
/-! ### two points -/
theorem pairs_two {e : Int} {a n : P2} (he : 0 ≤ e) (h : a.1 < n.1) : PairsOK e [a, n] ∧ FlatOK e [a, n] a n ∧ SteepOK e [a, n] a n := by
  have two : ∀ {p q : P2}, p ∈ [a, n] → q ∈ [a, n] → p.1 < q.1 → p = a ∧ q = n := fun {p q} hp hq hpq => by
    simp at hp hq
    rcases hp with rfl | rfl <;> rcases hq with rfl | rfl <;> first | omega | exact ⟨rfl, rfl⟩
  refine ⟨fun p hp q hq a' ha b hb hpq hab => ?_, ⟨by simp, by simp, h, fun p hp q hq hpq => ?_⟩, ⟨by simp, by simp, h, fun p hp q hq hpq => ?_⟩⟩
  · obtain ⟨rfl, rfl⟩ := two hp hq hpq
    obtain ⟨rfl, rfl⟩ := two ha hb hab
    have : 0 ≤ e * (b.1 - a'.1) := Int.mul_nonneg he (by omega)
    unfold LU
    grind
  · obtain ⟨rfl, rfl⟩ := two hp hq hpq
    exact Int.le_refl _
  · obtain ⟨rfl, rfl⟩ := two hp hq hpq
    exact Int.le_refl _
/-! ### the hulls -/
theorem pop_dom {ax ah bx bh tx th zx zh px ph : Int} (hab : ax < bx) (hbt : bx < tx) (htz : tx < zx) (ht : (bx - ax) * (th - ah) - (bh - ah) * (tx - ax) ≤ 0) (hp : px < zx) (d : (zh - ph) * (zx - bx) ≤ (zh - bh) * (zx - px)) :
    (zh - ph) * (zx - ax) ≤ (zh - ah) * (zx - px) ∨ (zh - ph) * (zx - tx) ≤ (zh - th) * (zx - px) := by
  by_cases c1 : (zh - bh) * (zx - ax) ≤ (zh - ah) * (zx - bx)
  · exact .inl (ftrans (d := zx - bx) (c := zh - bh) (by omega) (by omega) (by omega) d c1)
  · by_cases c2 : (zh - bh) * (zx - tx) ≤ (zh - th) * (zx - bx)
    · exact .inr (ftrans (d := zx - bx) (c := zh - bh) (by omega) (by omega) (by omega) d c2)
    · exfalso
      have d1 : (zh - ah) * (zx - bx) + 1 ≤ (zh - bh) * (zx - ax) := by omega
      have d2 : (zh - th) * (zx - bx) + 1 ≤ (zh - bh) * (zx - tx) := by omega
      have m1 := Int.mul_le_mul_of_nonneg_right d1 (show 0 ≤ tx - bx by omega)
      have m2 := Int.mul_le_mul_of_nonneg_right d2 (show 0 ≤ bx - ax by omega)
      have m3 := Int.mul_le_mul_of_nonneg_right ht (show 0 ≤ zx - bx by omega)
      grind
abbrev L3 := Int × Int × Int
/-- s = 1: the corners cs rule the points ps as seen from the right of X; s = -1: upside down -/
def Dom (s : Int) (ps : List P2) (cs : List L3) (X : Int) : Prop := ∀ p ∈ ps, ∀ z : P2, X < z.1 → ∃ c ∈ cs, (s * z.2 - s * p.2) * (z.1 - c.1) ≤ (s * z.2 - s * c.2.1) * (z.1 - p.1)
theorem dom_pop {s : Int} {ps : List P2} {cs : List L3} {a b t : L3} {X : Int} (h : Dom s ps (cs ++ [a, b] ++ [t]) X) (hab : a.1 < b.1) (hbt : b.1 < t.1) (htX : t.1 ≤ X) (hps : ∀ p ∈ ps, p.1 ≤ X)
    (ht : (b.1 - a.1) * (s * t.2.1 - s * a.2.1) - (s * b.2.1 - s * a.2.1) * (t.1 - a.1) ≤ 0) : Dom s ps (cs ++ [a] ++ [t]) X := by
  intro p hp z hz
  obtain ⟨c, hc, hd⟩ := h p hp z hz
  by_cases hcb : c = b
  · subst hcb
    have hpx := hps p hp
    rcases pop_dom hab hbt (by omega) ht (by omega) hd with r | r
    · exact ⟨a, by simp, r⟩
    · exact ⟨t, by simp, r⟩
  · refine ⟨c, ?_, hd⟩
    simp at hc ⊢
    rcases hc with hc | hc | hc | hc
    · exact .inl hc
    · exact .inr (.inl hc)
    · exact absurd hc hcb
    · exact .inr (.inr hc)
theorem dom_new {s : Int} {ps : List P2} {cs : List L3} {t : L3} {X Y : Int} (h : Dom s ps cs X) (hXY : X ≤ Y) : Dom s (ps ++ [(t.1, t.2.1)]) (cs ++ [t]) Y := by
  intro p hp z hz
  rcases mem2 hp with gp | ep
  · obtain ⟨c, hc, hd⟩ := h p gp z (by omega)
    exact ⟨c, List.mem_append_left _ hc, hd⟩
  · rw [ep]
    exact ⟨t, by simp, Int.le_refl _⟩
end KG
namespace KG
/-! ### covers, the least number of pieces -/
/-- the points s, .., t - 1 fit by triples -/
def SegOK (pts : List P2) (e : Int) (s t : Nat) : Prop := ∀ (i j k : Nat) (p q r : P2), s ≤ i → i < j → j < k → k < t → pts[i]? = some p → pts[j]? = some q → pts[k]? = some r → three p q r e = true
inductive Cov (pts : List P2) (e : Int) : Nat → Nat → Prop where
  | zero : Cov pts e 0 0
  | step {s t k : Nat} : Cov pts e s k → s < t → SegOK pts e s t → Cov pts e t (k + 1)
def IsLeast (pts : List P2) (e : Int) (t m : Nat) : Prop := Cov pts e t m ∧ ∀ k, Cov pts e t k → m ≤ k
theorem IsLeast.unique {pts : List P2} {e : Int} {t m n : Nat} (h : IsLeast pts e t m) (h' : IsLeast pts e t n) : m = n := Nat.le_antisymm (h.2 n h'.1) (h'.2 m h.1)
theorem seg_one {pts : List P2} {e : Int} {s : Nat} : SegOK pts e s (s + 1) := fun i j k p q r h1 h2 h3 h4 => by omega
theorem seg_mono {pts : List P2} {e : Int} {s t s' t' : Nat} (h : SegOK pts e s t) (h1 : s ≤ s') (h2 : t' ≤ t) : SegOK pts e s' t' := fun i j k p q r a b c d => h i j k p q r (by omega) b c (by omega)
theorem least_zero {pts : List P2} {e : Int} : IsLeast pts e 0 0 := ⟨.zero, fun k _ => Nat.zero_le k⟩
/-- the step of the table -/
theorem least_step {pts : List P2} {e : Int} {t b : Nat} {c : Nat → Nat} (ht : 0 < t) (hc : ∀ s, s < t → IsLeast pts e s (c s)) (hb : Cov pts e t b) (hmin : ∀ s, s < t → SegOK pts e s t → b ≤ c s + 1) : IsLeast pts e t b := by
  refine ⟨hb, fun k hk => ?_⟩
  cases hk with
  | zero => omega
  | step h1 h2 h3 =>
    have := (hc _ h2).2 _ h1
    have := hmin _ h2 h3
    omega
abbrev Pc := Int × L3
/-! ### the judge -/
/-- the start of the k-th piece; behind the last one the end -/
def stAt (ps : List Pc) (n : Nat) (k : Nat) : Int := match ps[k]? with
  | some p => p.1
  | none => n
structure StartsOK (st : List Int) (n : Nat) : Prop where
  first : st[0]? = some 0
  last : ∀ a, st[st.length - 1]? = some a → a < n
  asc : ∀ (k : Nat) (a b : Int), st[k]? = some a → st[k + 1]? = some b → a < b
def PieceOK (pts : List P2) (e : Int) (ps : List Pc) (k : Nat) : Prop := ∀ pc, ps[k]? = some pc → 1 ≤ pc.2.2.2 ∧ ∀ (i : Nat) p, pc.1 ≤ (i : Int) → (i : Int) < stAt ps pts.length (k + 1) → pts[i]? = some p → near pc.2.1 pc.2.2.1 pc.2.2.2 p e = true
def ReasonIs (pts : List P2) (e : Int) (r : L3) (lo hi : Int) : Prop := lo ≤ r.1 ∧ r.1 < r.2.1 ∧ r.2.1 < r.2.2 ∧ r.2.2 ≤ hi ∧ ∃ (i j k : Nat) (p q s : P2), r.1 = i ∧ r.2.1 = j ∧ r.2.2 = k ∧ pts[i]? = some p ∧ pts[j]? = some q ∧ pts[k]? = some s ∧ three p q s e = false
structure Judged1 (pts : List P2) (e : Int) (ps : List Pc) (rs : List L3) : Prop where
  st : StartsOK (ps.map (·.1)) pts.length
  len : rs.length + 1 = ps.length
  pcs : ∀ k, PieceOK pts e ps k
  rss : ∀ (k : Nat) r, rs[k]? = some r → ReasonIs pts e r (stAt ps pts.length k) (stAt ps pts.length (k + 1))
def Judged (pts : List P2) (e : Int) (ps : List Pc) (rs : List L3) : Prop := (pts = [] ∧ ps = [] ∧ rs = []) ∨ (pts ≠ [] ∧ Judged1 pts e ps rs)
theorem asc_at {pts : List P2} (h : Asc pts) {i j : Nat} {p q : P2} (hi : pts[i]? = some p) (hj : pts[j]? = some q) (hij : i < j) : p.1 < q.1 := by
  obtain ⟨h1, e1⟩ := List.getElem?_eq_some_iff.mp hi
  obtain ⟨h2, e2⟩ := List.getElem?_eq_some_iff.mp hj
  have := List.pairwise_iff_getElem.mp h i j h1 h2 hij
  rw [e1, e2] at this
  exact this
section
variable {pts : List P2} {e : Int} {ps : List Pc} {rs : List L3}
theorem stAt_map {k : Nat} : (ps.map (·.1))[k]? = ps[k]?.map (·.1) := List.getElem?_map
theorem stAt_of {n k : Nat} {p : Pc} (h : ps[k]? = some p) : stAt ps n k = p.1 := by
  unfold stAt
  rw [h]
theorem stAt_end {n k : Nat} (h : ps.length ≤ k) : stAt ps n k = n := by
  unfold stAt
  rw [List.getElem?_eq_none h]
theorem Judged1.asc (J : Judged1 pts e ps rs) : ∀ (k : Nat), k < ps.length → stAt ps pts.length k < stAt ps pts.length (k + 1) := by
  intro k hk
  have h1 := List.getElem?_eq_getElem hk
  rw [stAt_of h1]
  by_cases h2 : k + 1 < ps.length
  · have h3 := List.getElem?_eq_getElem h2
    rw [stAt_of h3]
    exact J.st.asc k _ _ (by rw [List.getElem?_map, h1]; rfl) (by rw [List.getElem?_map, h3]; rfl)
  · rw [stAt_end (by omega)]
    refine J.st.last _ ?_
    have e : (ps.map (·.1)).length - 1 = k := by rw [List.length_map]; omega
    rw [e, List.getElem?_map, h1]
    rfl
theorem Judged1.nn (J : Judged1 pts e ps rs) : ∀ (k : Nat), k ≤ ps.length → 0 ≤ stAt ps pts.length k := by
  intro k
  induction k with
  | zero =>
    intro _
    have h := J.st.first
    rw [List.getElem?_map] at h
    cases h2 : ps[0]? with
    | none =>
      rw [h2] at h
      cases h
    | some p =>
      rw [h2] at h
      rw [stAt_of h2, show p.1 = 0 from Option.some.inj h]
      exact Int.le_refl 0
  | succ k ih =>
    intro hk
    have := ih (by omega)
    have := J.asc k (by omega)
    omega
theorem Judged1.zero (J : Judged1 pts e ps rs) : stAt ps pts.length 0 = 0 := by
  have h := J.st.first
  rw [List.getElem?_map] at h
  cases h2 : ps[0]? with
  | none =>
    rw [h2] at h
    cases h
  | some p =>
    rw [h2] at h
    rw [stAt_of h2, show p.1 = 0 from Option.some.inj h]
theorem Judged1.le_end (J : Judged1 pts e ps rs) : ∀ (m k : Nat), k + m = ps.length → stAt ps pts.length k ≤ pts.length := by
  intro m
  induction m with
  | zero =>
    intro k hk
    rw [stAt_end (by omega)]
    exact Int.le_refl _
  | succ m ih =>
    intro k hk
    have := ih (k + 1) (by omega)
    have := J.asc k (by omega)
    omega
theorem Judged1.cov (J : Judged1 pts e ps rs) (ha : Asc pts) : ∀ k, k ≤ ps.length → Cov pts e (stAt ps pts.length k).toNat k := by
  intro k
  induction k with
  | zero =>
    intro _
    rw [J.zero]
    exact .zero
  | succ k ih =>
    intro hk
    have h0 := J.nn k (by omega)
    have h1 := J.asc k (by omega)
    refine .step (ih (by omega)) (by omega) fun i j l p q r a1 a2 a3 a4 g1 g2 g3 => ?_
    have hp := List.getElem?_eq_getElem (show k < ps.length by omega)
    obtain ⟨d1, hn⟩ := J.pcs k _ hp
    rw [stAt_of hp] at a1 h0
    exact three_of_near (show 0 < (ps[k]'(by omega)).2.2.2 by omega) (hn i p (by omega) (by omega) g1) (hn j q (by omega) (by omega) g2) (hn l r (by omega) (by omega) g3) (asc_at ha g1 g2 a2) (asc_at ha g2 g3 a3)
theorem Judged1.far (J : Judged1 pts e ps rs) : ∀ {t k : Nat}, Cov pts e t k → k < ps.length → (t : Int) ≤ stAt ps pts.length k := by
  intro t k h
  induction h with
  | zero =>
    intro _
    exact J.nn 0 (by omega)
  | step h1 h2 h3 ih =>
    rename_i s t k
    intro hk
    have ih := ih (by omega)
    rcases Int.lt_or_le (stAt ps pts.length (k + 1)) (t : Int) with c | c
    · exfalso
      have hl : k < rs.length := by have := J.len; omega
      obtain ⟨r1, r2, r3, r4, i, j, l, p, q, z, e1, e2, e3, g1, g2, g3, hf⟩ := J.rss k _ (List.getElem?_eq_getElem hl)
      have := h3 i j l p q z (by omega) (by omega) (by omega) (by omega) g1 g2 g3
      rw [this] at hf
      cases hf
    · exact c
theorem judged_least (ha : Asc pts) (J : Judged pts e ps rs) : IsLeast pts e pts.length ps.length := by
  rcases J with ⟨rfl, rfl, rfl⟩ | ⟨hne, J⟩
  · exact least_zero
  · have h0 : 0 < ps.length := by have := J.len; omega
    have hpos : 0 < pts.length := List.length_pos_iff.mpr hne
    refine ⟨?_, fun k hk => ?_⟩
    · have := J.cov ha ps.length (Nat.le_refl _)
      rw [stAt_end (Nat.le_refl _)] at this
      simpa using this
    · rcases Nat.lt_or_ge k ps.length with c | c
      · exfalso
        have h1 := J.far hk c
        have h2 := J.asc k c
        have h3 := J.le_end (ps.length - (k + 1)) (k + 1) (by omega)
        omega
      · exact c
end
/-! ### greedy starts -/
/-- the starts of the greedy pieces of the first m points -/
structure Greedy (pts : List P2) (e : Int) (m : Nat) (st : List Nat) : Prop where
  emp : m = 0 → st = []
  first : 0 < m → st[0]? = some 0
  lt : ∀ (k a : Nat), st[k]? = some a → a < m
  asc : ∀ (k a b : Nat), st[k]? = some a → st[k + 1]? = some b → a < b
  fit : ∀ (k a b : Nat), st[k]? = some a → st[k + 1]? = some b → SegOK pts e a b ∧ ¬ SegOK pts e a (b + 1)
  lst : ∀ (k a : Nat), st[k]? = some a → st[k + 1]? = none → SegOK pts e a m
theorem greedy_zero {pts : List P2} {e : Int} : Greedy pts e 0 [] := ⟨fun _ => rfl, fun h => by omega, fun k a h => by simp at h, fun k a b h => by simp at h, fun k a b h => by simp at h, fun k a h => by simp at h⟩
theorem snoc_get {α : Type} {l : List α} {x y : α} {k : Nat} (h : (l ++ [x])[k]? = some y) : (k < l.length ∧ l[k]? = some y) ∨ (k = l.length ∧ y = x) := by
  rcases Nat.lt_trichotomy k l.length with c | c | c
  · rw [List.getElem?_append_left c] at h
    exact .inl ⟨c, h⟩
  · subst c
    simp at h
    exact .inr ⟨rfl, h.symm⟩
  · have := (List.getElem?_eq_some_iff.mp h).1
    simp at this
    omega
section
variable {pts : List P2} {e : Int} {m : Nat} {st : List Nat}
theorem greedy_first : Greedy pts e 1 [0] := ⟨fun h => by omega, fun _ => rfl, fun k a h => by
    obtain ⟨h1, h2⟩ := List.getElem?_eq_some_iff.mp h
    have : k = 0 := by simp at h1; omega
    subst this
    simp at h2
    omega, fun k a b h h' => by
    have := (List.getElem?_eq_some_iff.mp h').1
    simp at this, fun k a b h h' => by
    have := (List.getElem?_eq_some_iff.mp h').1
    simp at this, fun k a h _ => by
    obtain ⟨h1, h2⟩ := List.getElem?_eq_some_iff.mp h
    have : k = 0 := by simp at h1; omega
    subst this
    simp at h2
    subst h2
    exact seg_one⟩
theorem greedy_keep (G : Greedy pts e m st) (hm : 0 < m) (h : ∀ a, st[st.length - 1]? = some a → SegOK pts e a (m + 1)) : Greedy pts e (m + 1) st := by
  refine ⟨fun h => by omega, fun _ => G.first hm, fun k a h => Nat.lt_succ_of_lt (G.lt k a h), G.asc, G.fit, fun k a h1 h2 => ?_⟩
  refine h a ?_
  have a1 := (List.getElem?_eq_some_iff.mp h1).1
  have a2 := List.getElem?_eq_none_iff.mp h2
  rw [show st.length - 1 = k by omega]
  exact h1
theorem greedy_new (G : Greedy pts e m st) (hm : 0 < m) (h : ∀ a, st[st.length - 1]? = some a → ¬ SegOK pts e a (m + 1)) : Greedy pts e (m + 1) (st ++ [m]) := by
  have hl : 0 < st.length := (List.getElem?_eq_some_iff.mp (G.first hm)).1
  refine ⟨fun h => by omega, fun _ => ?_, fun k a hk => ?_, fun k a b ha hb => ?_, fun k a b ha hb => ?_, fun k a ha hn => ?_⟩
  · rw [List.getElem?_append_left hl]
    exact G.first hm
  · rcases snoc_get hk with ⟨_, h1⟩ | ⟨_, rfl⟩
    · exact Nat.lt_succ_of_lt (G.lt k a h1)
    · omega
  · rcases snoc_get hb with ⟨c, h1⟩ | ⟨c, rfl⟩
    · rcases snoc_get ha with ⟨_, h2⟩ | ⟨c2, _⟩
      · exact G.asc k a b h2 h1
      · omega
    · rcases snoc_get ha with ⟨_, h2⟩ | ⟨c2, _⟩
      · exact G.lt k a h2
      · omega
  · rcases snoc_get hb with ⟨c, h1⟩ | ⟨c, rfl⟩
    · rcases snoc_get ha with ⟨_, h2⟩ | ⟨c2, _⟩
      · exact G.fit k a b h2 h1
      · omega
    · rcases snoc_get ha with ⟨_, h2⟩ | ⟨c2, _⟩
      · exact ⟨G.lst k a h2 (List.getElem?_eq_none (by omega)), h a (by rw [show st.length - 1 = k by omega]; exact h2)⟩
      · omega
  · rcases snoc_get ha with ⟨c, h2⟩ | ⟨c, rfl⟩
    · have := List.getElem?_eq_none_iff.mp hn
      simp at this
      omega
    · exact seg_one
end
/-! ### slices -/
def TriIx (pts : List P2) (e : Int) : Prop := ∀ (i j k : Nat) (p q r : P2), i < j → j < k → pts[i]? = some p → pts[j]? = some q → pts[k]? = some r → three p q r e = true
theorem seg_slice {pts : List P2} {e : Int} {s t : Nat} : TriIx ((pts.drop s).take (t - s)) e ↔ SegOK pts e s t := by
  have get : ∀ i, ((pts.drop s).take (t - s))[i]? = if i < t - s then pts[s + i]? else none := fun i => by
    rw [List.getElem?_take]
    split
    · rw [List.getElem?_drop]
    · rfl
  constructor
  · intro h i j k p q r h1 h2 h3 h4 g1 g2 g3
    refine h (i - s) (j - s) (k - s) p q r (by omega) (by omega) ?_ ?_ ?_
    · rw [get, if_pos (by omega), show s + (i - s) = i by omega]
      exact g1
    · rw [get, if_pos (by omega), show s + (j - s) = j by omega]
      exact g2
    · rw [get, if_pos (by omega), show s + (k - s) = k by omega]
      exact g3
  · intro h i j k p q r h1 h2 g1 g2 g3
    rw [get] at g1 g2 g3
    split at g1
    · split at g2
      · split at g3
        · exact h (s + i) (s + j) (s + k) p q r (by omega) (by omega) (by omega) (by omega) g1 g2 g3
        · cases g3
      · cases g2
    · cases g1
theorem seg_all {pts : List P2} {e : Int} : TriIx pts e ↔ SegOK pts e 0 pts.length := by
  rw [← seg_slice]
  simp
/-- a segment that fits, one more point and it does not: the triple ends at that point -/
theorem not_seg {pts : List P2} {e : Int} {s t : Nat} (h : SegOK pts e s t) (hn : ¬ SegOK pts e s (t + 1)) (all : ∀ (i j : Nat) (p q r : P2), s ≤ i → i < j → j < t → pts[i]? = some p → pts[j]? = some q → pts[t]? = some r → three p q r e = true) : False := by
  refine hn fun i j k p q r h1 h2 h3 h4 g1 g2 g3 => ?_
  by_cases c : k = t
  · subst c
    exact all i j p q r h1 h2 h3 g1 g2 g3
  · exact h i j k p q r h1 h2 h3 (by omega) g1 g2 g3
end KG
namespace KG
def lowQ (p d e : Int) (pt : P2) : Int := pt.2 * d - e * d - p * pt.1
def upQ (p d e : Int) (pt : P2) : Int := pt.2 * d + e * d - p * pt.1
def sb (lo up : P2) : P2 := if 0 < lo.1 then lo else if up.1 < 0 then up else (0, 1)
/-- between all lower and all upper bounds -/
structure SlopeOK (e : Int) (pts : List P2) (p d : Int) : Prop where
  pos : 0 < d
  lo : ∀ a ∈ pts, ∀ b ∈ pts, a.1 < b.1 → (b.2 - a.2 - 2 * e) * d ≤ p * (b.1 - a.1)
  up : ∀ a ∈ pts, ∀ b ∈ pts, a.1 < b.1 → p * (b.1 - a.1) ≤ (b.2 - a.2 + 2 * e) * d
theorem SlopeOK.fit {e p d : Int} {pts : List P2} (S : SlopeOK e pts p d) (he : 0 ≤ e) (J : Inj pts) {m : P2} (hm : m ∈ pts) (hmax : ∀ pt ∈ pts, lowQ p d e pt ≤ lowQ p d e m) : ∀ pt ∈ pts, lowQ p d e m ≤ upQ p d e pt :=
  near_of_slope S.pos he J S.lo S.up hm rfl hmax
theorem SlopeOK.near {e p d : Int} {pts : List P2} (S : SlopeOK e pts p d) (he : 0 ≤ e) (J : Inj pts) {m : P2} (hm : m ∈ pts) (hmax : ∀ pt ∈ pts, lowQ p d e pt ≤ lowQ p d e m) : ∀ pt ∈ pts, near p (lowQ p d e m) d pt e = true :=
  fun pt hpt => near_low (hmax pt hpt) (S.fit he J hm hmax pt hpt)
/-- the same line with greater numbers, or the one in the middle -/
theorem near_twice {p d e q t : Int} {pt : P2} (h1 : lowQ p d e pt ≤ q) (h2 : q ≤ upQ p d e pt) (h3 : t ≤ upQ p d e pt) (h4 : q ≤ t) (b : Bool) : near (p * 2) (if b = true then q + t else 2 * q) (d * 2) pt e = true := by
  rw [near_iff]
  unfold lowQ at h1
  unfold upQ at h2 h3
  have e1 : p * 2 * pt.1 = 2 * (p * pt.1) := by grind
  have e2 : pt.2 * (d * 2) = 2 * (pt.2 * d) := by grind
  have e3 : e * (d * 2) = 2 * (e * d) := by grind
  rw [e1, e2, e3]
  split <;> constructor <;> omega
/-- the greatest lower bound of the pairs -/
theorem slope_best {e : Int} {pts : List P2} {i j : P2} (P : PairsOK e pts) (hi : i ∈ pts) (hj : j ∈ pts) (hij : i.1 < j.1) (best : ∀ a ∈ pts, ∀ b ∈ pts, a.1 < b.1 → (b.2 - a.2 - 2 * e) * (j.1 - i.1) ≤ (j.2 - i.2 - 2 * e) * (b.1 - a.1)) :
    SlopeOK e pts (j.2 - i.2 - 2 * e) (j.1 - i.1) := ⟨by omega, best, fun a ha b hb hab => P i hi j hj a ha b hb hij hab⟩
theorem slope_sb {e : Int} {pts : List P2} {f g h k lo up : P2} (F : FlatOK e pts f g) (S : SteepOK e pts h k) (P : PairsOK e pts) (h1 : 0 < lo.2) (h2 : 0 < up.2) (e1 : lo.1 * (g.1 - f.1) = (g.2 - f.2 - 2 * e) * lo.2) (e2 : up.1 * (k.1 - h.1) = (k.2 - h.2 + 2 * e) * up.2) :
    SlopeOK e pts (sb lo up).1 (sb lo up).2 := by
  have fl := F.lt
  have sl := S.lt
  have lo1 : ∀ a ∈ pts, ∀ b ∈ pts, a.1 < b.1 → (b.2 - a.2 - 2 * e) * lo.2 ≤ lo.1 * (b.1 - a.1) := fun a ha b hb hab =>
    ftrans (d := g.1 - f.1) (c := g.2 - f.2 - 2 * e) (by omega) (by omega) (by omega) (F.top a ha b hb hab) (by rw [e1]; exact Int.le_refl _)
  have lo2 : ∀ a ∈ pts, ∀ b ∈ pts, a.1 < b.1 → lo.1 * (b.1 - a.1) ≤ (b.2 - a.2 + 2 * e) * lo.2 := fun a ha b hb hab =>
    ftrans (d := g.1 - f.1) (c := g.2 - f.2 - 2 * e) (by omega) (by omega) (by omega) (by rw [e1]; exact Int.le_refl _) (P f F.mf g F.mg a ha b hb fl hab)
  have up1 : ∀ a ∈ pts, ∀ b ∈ pts, a.1 < b.1 → (b.2 - a.2 - 2 * e) * up.2 ≤ up.1 * (b.1 - a.1) := fun a ha b hb hab =>
    ftrans (d := k.1 - h.1) (c := k.2 - h.2 + 2 * e) (by omega) (by omega) (by omega) (P a ha b hb h S.mh k S.mk_ hab sl) (by rw [e2]; exact Int.le_refl _)
  have up2 : ∀ a ∈ pts, ∀ b ∈ pts, a.1 < b.1 → up.1 * (b.1 - a.1) ≤ (b.2 - a.2 + 2 * e) * up.2 := fun a ha b hb hab =>
    ftrans (d := k.1 - h.1) (c := k.2 - h.2 + 2 * e) (by omega) (by omega) (by omega) (by rw [e2]; exact Int.le_refl _) (S.low a ha b hb hab)
  unfold sb
  by_cases c1 : 0 < lo.1
  · rw [if_pos c1]
    exact ⟨h1, lo1, lo2⟩
  · rw [if_neg c1]
    by_cases c2 : up.1 < 0
    · rw [if_pos c2]
      exact ⟨h2, up1, up2⟩
    · rw [if_neg c2]
      refine ⟨by decide, fun a ha b hb hab => ?_, fun a ha b hb hab => ?_⟩
      · have := lo1 a ha b hb hab
        have h3 : lo.1 * (b.1 - a.1) ≤ 0 := Int.mul_nonpos_of_nonpos_of_nonneg (by omega) (by omega)
        show (b.2 - a.2 - 2 * e) * 1 ≤ 0 * (b.1 - a.1)
        rw [Int.zero_mul, Int.mul_one]
        rcases Int.lt_or_le 0 (b.2 - a.2 - 2 * e) with c | c
        · have := Int.mul_pos c h1
          omega
        · exact c
      · have := up2 a ha b hb hab
        have h3 : 0 ≤ up.1 * (b.1 - a.1) := Int.mul_nonneg (by omega) (by omega)
        show 0 * (b.1 - a.1) ≤ (b.2 - a.2 + 2 * e) * 1
        rw [Int.zero_mul, Int.mul_one]
        rcases Int.lt_or_le (b.2 - a.2 + 2 * e) 0 with c | c
        · have := Int.mul_neg_of_neg_of_pos c h2
          omega
        · exact c
theorem tri_of_ix {pts : List P2} {e : Int} (ha : Asc pts) (h : TriIx pts e) : TriOK e pts := by
  intro p hp q hq r hr h1 h2
  obtain ⟨i, hi, e1⟩ := List.mem_iff_getElem.mp hp
  obtain ⟨j, hj, e2⟩ := List.mem_iff_getElem.mp hq
  obtain ⟨k, hk, e3⟩ := List.mem_iff_getElem.mp hr
  have g1 : pts[i]? = some p := by rw [List.getElem?_eq_getElem hi, e1]
  have g2 : pts[j]? = some q := by rw [List.getElem?_eq_getElem hj, e2]
  have g3 : pts[k]? = some r := by rw [List.getElem?_eq_getElem hk, e3]
  have lt : ∀ {a b : Nat} {u v : P2}, pts[a]? = some u → pts[b]? = some v → u.1 < v.1 → a < b := fun {a b u v} ga gb huv => by
    rcases Nat.lt_trichotomy a b with c | c | c
    · exact c
    · subst c
      rw [ga] at gb
      cases gb
      omega
    · have := asc_at ha gb ga c
      omega
  exact h i j k p q r (lt g1 g2 h1) (lt g2 g3 h2) g1 g2 g3
theorem pairs_of_ix {pts : List P2} {e : Int} (he : 0 ≤ e) (ha : Asc pts) (h : TriIx pts e) : PairsOK e pts := pairs_of_tri he pts ha (tri_of_ix ha h)
/-- the conflict that the Fitter tells -/
theorem conflict_flat {e : Int} {f g n : P2} (hfg : f.1 < g.1) (hgn : g.1 < n.1) (c : (n.2 - g.2 + 2 * e) * (g.1 - f.1) < (g.2 - f.2 - 2 * e) * (n.1 - g.1)) : three f g n e = false := by
  cases h : three f g n e with
  | false => rfl
  | true =>
    have := tri_dn h
    grind
theorem conflict_steep {e : Int} {f g n : P2} (hfg : f.1 < g.1) (hgn : g.1 < n.1) (c : (g.2 - f.2 + 2 * e) * (n.1 - g.1) < (n.2 - g.2 - 2 * e) * (g.1 - f.1)) : three f g n e = false := by
  cases h : three f g n e with
  | false => rfl
  | true =>
    have := tri_up h
    grind
end KG
namespace KG
/-- the cutting so far: its pieces, the start of the open one, the points seen -/
structure Part (pts : List P2) (e : Int) (ps : List Pc) (rs : List L3) (s k : Nat) : Prop where
  le : s ≤ k
  lt : 0 < k → s < k
  first : (ps.map (·.1) ++ [(s : Int)])[0]? = some 0
  asc : ∀ (j : Nat) (a b : Int), (ps.map (·.1) ++ [(s : Int)])[j]? = some a → (ps.map (·.1) ++ [(s : Int)])[j + 1]? = some b → a < b
  pcs : ∀ (j : Nat) (pc : Pc) (b : Int), ps[j]? = some pc → (ps.map (·.1) ++ [(s : Int)])[j + 1]? = some b → 1 ≤ pc.2.2.2 ∧ ∀ (i : Nat) p, pc.1 ≤ (i : Int) → (i : Int) < b → pts[i]? = some p → near pc.2.1 pc.2.2.1 pc.2.2.2 p e = true
  len : rs.length = ps.length
  rss : ∀ (j : Nat) (r : L3) (a b : Int), rs[j]? = some r → (ps.map (·.1) ++ [(s : Int)])[j]? = some a → (ps.map (·.1) ++ [(s : Int)])[j + 1]? = some b → ReasonIs pts e r a b
theorem part_zero {pts : List P2} {e : Int} : Part pts e [] [] 0 0 := ⟨Nat.le_refl 0, fun h => by omega, rfl, fun j a b h1 h2 => by simp at h2, fun j pc b h => by simp at h, rfl, fun j r a b h => by simp at h⟩
section
variable {pts : List P2} {e : Int} {ps : List Pc} {rs : List L3} {s k : Nat}
theorem Part.keep (h : Part pts e ps rs s k) : Part pts e ps rs s (k + 1) := ⟨by have := h.le; omega, fun _ => by have := h.le; omega, h.first, h.asc, h.pcs, h.len, h.rss⟩
theorem Part.new (h : Part pts e ps rs s k) (hs : s < k) {L : L3} {r : L3} (hd : 1 ≤ L.2.2) (hn : ∀ (i : Nat) p, s ≤ i → i < k → pts[i]? = some p → near L.1 L.2.1 L.2.2 p e = true) (hr : ReasonIs pts e r s k) : Part pts e (ps ++ [((s : Int), L)]) (rs ++ [r]) k (k + 1) := by
  have e1 : (ps ++ [((s : Int), L)]).map (·.1) = ps.map (·.1) ++ [(s : Int)] := by rw [List.map_append]; rfl
  have hl : (ps.map (·.1)).length = ps.length := List.length_map _
  have low : ∀ {j : Nat} {a : Int}, (ps.map (·.1) ++ [(s : Int)] ++ [(k : Int)])[j]? = some a → (j < ps.length + 1 ∧ (ps.map (·.1) ++ [(s : Int)])[j]? = some a) ∨ (j = ps.length + 1 ∧ a = k) := fun {j a} g => by
    rcases snoc_get g with ⟨c, g1⟩ | ⟨c, g1⟩
    · rw [List.length_append, hl, List.length_singleton] at c
      exact .inl ⟨c, g1⟩
    · rw [List.length_append, hl, List.length_singleton] at c
      exact .inr ⟨c, g1⟩
  have mid : ∀ {a : Int}, (ps.map (·.1) ++ [(s : Int)])[ps.length]? = some a → a = s := fun {a} g => by
    rcases snoc_get g with ⟨c, _⟩ | ⟨_, g1⟩
    · rw [hl] at c
      omega
    · exact g1
  refine ⟨by omega, fun _ => by omega, ?_, fun j a b h1 h2 => ?_, fun j pc b h1 h2 => ?_, ?_, fun j r' a b h0 h1 h2 => ?_⟩
  · rw [e1, List.getElem?_append_left (by rw [List.length_append]; simp)]
    exact h.first
  · rw [e1] at h1 h2
    rcases low h2 with ⟨c2, g2⟩ | ⟨c2, rfl⟩
    · rcases low h1 with ⟨c1, g1⟩ | ⟨c1, _⟩
      · exact h.asc j a b g1 g2
      · omega
    · rcases low h1 with ⟨c1, g1⟩ | ⟨c1, _⟩
      · have c3 : j = ps.length := by omega
        subst c3
        rw [mid g1]
        omega
      · omega
  · rw [e1] at h2
    rcases snoc_get h1 with ⟨c1, g1⟩ | ⟨c1, rfl⟩
    · rcases low h2 with ⟨c2, g2⟩ | ⟨c2, _⟩
      · exact h.pcs j pc b g1 g2
      · omega
    · rcases low h2 with ⟨c2, g2⟩ | ⟨c2, rfl⟩
      · omega
      · exact ⟨hd, fun i p a1 a2 a3 => hn i p (by have : (s : Int) ≤ i := a1; omega) (by omega) a3⟩
  · rw [List.length_append, List.length_append, h.len]
    rfl
  · rw [e1] at h1 h2
    rcases snoc_get h0 with ⟨c0, g0⟩ | ⟨c0, rfl⟩
    · have := h.len
      rcases low h2 with ⟨c2, g2⟩ | ⟨c2, _⟩
      · rcases low h1 with ⟨c1, g1⟩ | ⟨c1, _⟩
        · exact h.rss j r' a b g0 g1 g2
        · omega
      · omega
    · have := h.len
      rcases low h2 with ⟨c2, g2⟩ | ⟨c2, rfl⟩
      · omega
      · rcases low h1 with ⟨c1, g1⟩ | ⟨c1, _⟩
        · have c3 : j = ps.length := by omega
          subst c3
          rw [mid g1]
          exact hr
        · omega
theorem Part.done (h : Part pts e ps rs s pts.length) (hp : 0 < pts.length) {L : L3} (hd : 1 ≤ L.2.2) (hn : ∀ (i : Nat) p, s ≤ i → i < pts.length → pts[i]? = some p → near L.1 L.2.1 L.2.2 p e = true) : Judged1 pts e (ps ++ [((s : Int), L)]) rs := by
  have e1 : (ps ++ [((s : Int), L)]).map (·.1) = ps.map (·.1) ++ [(s : Int)] := by rw [List.map_append]; rfl
  have hl : (ps.map (·.1)).length = ps.length := List.length_map _
  have hs := h.lt hp
  have at_ : ∀ {j : Nat}, j ≤ ps.length → (ps.map (·.1) ++ [(s : Int)])[j]? = some (stAt (ps ++ [((s : Int), L)]) pts.length j) := fun {j} hj => by
    have hj2 : j < (ps ++ [((s : Int), L)]).length := by rw [List.length_append, List.length_singleton]; omega
    have g := List.getElem?_eq_getElem hj2
    rw [stAt_of g, ← e1, List.getElem?_map, g]
    rfl
  refine ⟨⟨?_, fun a ha => ?_, fun j a b h1 h2 => ?_⟩, ?_, fun j pc h1 => ?_, fun j r h0 => ?_⟩
  · rw [e1]
    exact h.first
  · rw [e1] at ha
    rcases snoc_get ha with ⟨c, _⟩ | ⟨_, rfl⟩
    · rw [List.length_append, hl, List.length_singleton] at c
      omega
    · omega
  · rw [e1] at h1 h2
    exact h.asc j a b h1 h2
  · rw [List.length_append, h.len]
    rfl
  · rcases snoc_get h1 with ⟨c1, g1⟩ | ⟨c1, rfl⟩
    · exact h.pcs j pc _ g1 (at_ (by omega))
    · refine ⟨hd, fun i p a1 a2 a3 => hn i p (by have : (s : Int) ≤ i := a1; omega) (List.getElem?_eq_some_iff.mp a3).1 a3⟩
  · have := (List.getElem?_eq_some_iff.mp h0).1
    have := h.len
    exact h.rss j r _ _ h0 (at_ (by omega)) (at_ (by omega))
end
/-! ### slices -/
def slc (pts : List P2) (s k : Nat) : List P2 := (pts.drop s).take (k - s)
theorem slc_get {pts : List P2} {s k i : Nat} : (slc pts s k)[i]? = if i < k - s then pts[s + i]? else none := by
  unfold slc
  rw [List.getElem?_take]
  split
  · rw [List.getElem?_drop]
  · rfl
theorem slc_self {pts : List P2} {s : Nat} : slc pts s s = [] := by
  unfold slc
  rw [Nat.sub_self, List.take_zero]
theorem slc_snoc {pts : List P2} {s k : Nat} {n : P2} (h : s ≤ k) (hn : pts[k]? = some n) : slc pts s (k + 1) = slc pts s k ++ [n] := by
  unfold slc
  rw [show k + 1 - s = (k - s) + 1 by omega, List.take_add_one, List.getElem?_drop, show s + (k - s) = k by omega, hn]
  rfl
theorem slc_mem {pts : List P2} {s k : Nat} {p : P2} (h : p ∈ slc pts s k) : p ∈ pts := List.mem_of_mem_drop (List.mem_of_mem_take h)
theorem slc_asc {pts : List P2} {s k : Nat} (h : Asc pts) : Asc (slc pts s k) := h.sublist ((List.take_sublist _ _).trans (List.drop_sublist _ _))
theorem slc_len {pts : List P2} {s k : Nat} : (slc pts s k).length ≤ pts.length := by
  unfold slc
  rw [List.length_take, List.length_drop]
  omega
theorem slc_near {pts : List P2} {s k i : Nat} {p : P2} (h1 : s ≤ i) (h2 : i < k) (h : pts[i]? = some p) : p ∈ slc pts s k := by
  refine List.mem_of_getElem? (i := i - s) ?_
  rw [slc_get, if_pos (by omega), show s + (i - s) = i by omega]
  exact h
theorem pairs_one {e : Int} {n : P2} : PairsOK e ([] ++ [n]) := fun p hp q hq a ha b hb hpq => by
  simp at hp hq
  subst hp hq
  omega
end KG
namespace KW
open PySem PySem.Spec PyProof.Rows L2 KG
/-! ### a def of the module -/
/-- the def x of the text st as it stands behind the top -/
def DefAt (K : PySem.W.Frag) (mg : Str → Option Value) (x : Str) (st : Stmt) : Prop := ∃ f fd, FunD K x x (defArgs st) (defBody st) (defScope st) [] [] f fd ∧ mg x = some (.ref f)
def BindsN (x qual : Str) (st : Stmt) (ps : List Str) : Prop := ∀ (kV doc pm : Value) (an : Option Addr) (cdv ct : Value) (us : List Value), us.length = ps.length → bindArgs (PySem.W.fnOf x qual (defArgs st) (defBody st) (defScope st) .none kV doc pm an cdv ct) ⟨us, []⟩ = pure (ps.zip us)
/-- what a body's proof gives -/
def BodyOk (P : Program) (w : World) (K : PySem.W.Frag) (mg : Str → Option Value) (base : Heap) (CX : CXT) (N : List Str) (qual : Str) (st : Stmt) (k : Nat) (sp : Sp) : Prop :=
  ∀ (f : Addr) (cdv : Value) (A : Around) (outer : List Env) (s : Shared) (H : Hp) (vs : List V) (Q : VK) (E : XK), Room k (A.deeper (envOfC qual (defScope st) s.heap.objs.size f cdv)) → sp vs H Q E →
    ∃ t, PSs (cxOf CX P w K mg base N qual (defScope st) f cdv A outer s H E).nox (defBody st) t ∧ t { nx := fun _ H' => Q .non H', rt := Q } (start N vs) H
abbrev Cal := C8.Cal
theorem cal_of {P : Program} {w : World} {K : PySem.W.Frag} {mg : Str → Option Value} {base : Heap} {x : Str} {st : Stmt} {N ps : List Str} {k : Nat} {sp : Sp} (D : DefAt K mg x st) (S : FnScope N ps (defScope st)) (hb : BindsN x x st ps)
    (len : ∀ vs H Q E, sp vs H Q E → vs.length = ps.length) (hbody : BodyOk P w K mg base CX0 N x st k sp) : Cal P w K mg base (k + 1) x sp [] := by
  obtain ⟨f, fd, F, hm⟩ := D
  exact ⟨f, fd, ps, [], F.ok S len (fun cdv A outer s H vs Q E hr h => (hbody f cdv A outer s H vs Q E hr h).imp fun t q => ⟨PSs.nox q.1, q.2⟩), hm, F.kp, F.bindsN hb, .nil⟩
/-! ### data -/
def IsPt (H : Hp) (v : V) (p : P2) : Prop := ∃ t, v = .ref t ∧ H t = some (.tup [.int p.1, .int p.2])
def IsTri (H : Hp) (v : V) (l : L3) : Prop := ∃ t, v = .ref t ∧ H t = some (.tup [.int l.1, .int l.2.1, .int l.2.2])
def IsPc (H : Hp) (v : V) (p : Pc) : Prop := ∃ t u, v = .ref t ∧ H t = some (.tup [.int p.1, u]) ∧ IsTri H u p.2
/-- a list at a of things that tell ds -/
def LsOf {α : Type} (R : Hp → V → α → Prop) (H : Hp) (a : Addr) (ds : List α) : Prop := ∃ vs, H a = some (.lst vs) ∧ Paired (R H) vs ds
/-- what is kept by Same -/
def Mono {α : Type} (R : Hp → V → α → Prop) : Prop := ∀ H H' v d, (∀ b xs, H b = some (.tup xs) → H' b = some (.tup xs)) → R H v d → R H' v d
theorem IsPt.mono : Mono IsPt := fun _ _ _ _ s ⟨t, e, h⟩ => ⟨t, e, s _ _ h⟩
theorem IsTri.mono : Mono IsTri := fun _ _ _ _ s ⟨t, e, h⟩ => ⟨t, e, s _ _ h⟩
theorem IsPc.mono : Mono IsPc := fun _ _ _ _ s ⟨t, u, e, h, q⟩ => ⟨t, u, e, s _ _ h, IsTri.mono _ _ _ _ s q⟩
theorem sameT {H H' : Hp} (s : Same H H') : ∀ b xs, H b = some (.tup xs) → H' b = some (.tup xs) := fun b _ h => s b _ h
theorem pairedSame {α : Type} {R : Hp → V → α → Prop} {H H' : Hp} (m : Mono R) (s : ∀ b xs, H b = some (.tup xs) → H' b = some (.tup xs)) {vs : List V} {ds : List α} (h : Paired (R H) vs ds) : Paired (R H') vs ds := L2.Paired.mapP h fun _ _ q => m _ _ _ _ s q
theorem LsOf.same {α : Type} {R : Hp → V → α → Prop} {H H' : Hp} {a : Addr} {ds : List α} (m : Mono R) (s : Same H H') (h : LsOf R H a ds) : LsOf R H' a ds := by
  obtain ⟨vs, e, q⟩ := h
  exact ⟨vs, s _ _ e, pairedSame m (sameT s) q⟩
theorem paired_get {α β : Type} {F : α → β → Prop} : ∀ {l : List α} {m : List β} {i : Nat} {x : α}, Paired F l m → l[i]? = some x → ∃ y, m[i]? = some y ∧ F x y
  | _, _, _, _, .nil, e => by simp at e
  | _, _, 0, _, .cons r _, e => by
    simp at e
    subst e
    exact ⟨_, rfl, r⟩
  | _, _, i + 1, x, .cons _ t, e => by
    obtain ⟨y, h1, h2⟩ := paired_get (i := i) t (by simpa using e)
    exact ⟨y, by simpa using h1, h2⟩
theorem paired_get' {α β : Type} {F : α → β → Prop} : ∀ {l : List α} {m : List β} {i : Nat} {y : β}, Paired F l m → m[i]? = some y → ∃ x, l[i]? = some x ∧ F x y
  | _, _, _, _, .nil, e => by simp at e
  | _, _, 0, _, .cons r _, e => by
    simp at e
    subst e
    exact ⟨_, rfl, r⟩
  | _, _, i + 1, x, .cons _ t, e => by
    obtain ⟨y, h1, h2⟩ := paired_get' (i := i) t (by simpa using e)
    exact ⟨y, by simpa using h1, h2⟩
theorem paired_app {α β : Type} {F : α → β → Prop} : ∀ {l l' : List α} {m m' : List β}, Paired F l m → Paired F l' m' → Paired F (l ++ l') (m ++ m')
  | _, _, _, _, .nil, h => h
  | _, _, _, _, .cons r t, h => .cons r (paired_app t h)
theorem paired_drop {α β : Type} {F : α → β → Prop} : ∀ {l : List α} {m : List β} (n : Nat), Paired F l m → Paired F (l.drop n) (m.drop n)
  | _, _, 0, h => h
  | _, _, _ + 1, .nil => .nil
  | _, _, n + 1, .cons _ t => paired_drop n t
theorem paired_take {α β : Type} {F : α → β → Prop} : ∀ {l : List α} {m : List β} (n : Nat), Paired F l m → Paired F (l.take n) (m.take n)
  | _, _, 0, _ => .nil
  | _, _, _ + 1, .nil => .nil
  | _, _, n + 1, .cons r t => .cons r (paired_take n t)
theorem same_upd {H : Hp} {p : Addr} {o : HO} (h : H p = none) : Same H (upd H p o) := fun b x e => by
  rw [upd_ne (ne_of_none e h)]
  exact e
theorem sameU {H H' : Hp} {p : Addr} {o : HO} (s : Same H H') (h : H' p = none) : Same H (upd H' p o) := s.trans (same_upd h)
/-- numbers that are small -/
def Sm (x : Int) : Prop := -(1099511627776 : Int) ≤ x ∧ x ≤ 1099511627776
def SmP (p : P2) : Prop := Sm p.1 ∧ Sm p.2
end KW
namespace KW
open PySem PySem.Spec PyProof.Rows L2 KG
/-- the built-in names that the program leaves as they are, its constants -/
structure Txt (mg : Str → Option Value) : Prop where
  abs : mg "abs" = none
  max : mg "max" = none
  min : mg "min" = none
  len : mg "len" = none
  all : mg "all" = none
  range : mg "range" = none
  enumerate : mg "enumerate" = none
  lst : mg "list" = none
  str : mg "str" = none
  int : mg "int" = none
  super : mg "super" = none
  DIGITS : ∃ u, mg "DIGITS" = some u ∧ RelV (.str "0123456789") u
  MOST_DIGITS : ∃ u, mg "MOST_DIGITS" = some u ∧ RelV (.int 60) u
def topS (i : Nat) : Stmt := PySem.Challenge.pw_fewestlines_k38_whole_audits_of_cuttings.main.body.getD i (.Pass ⟨0, 0, 0, 0⟩)
end KW
namespace KW
open PySem PySem.Spec PyProof.Rows L2 KG
/-- while, by a word and a measure, told as the loop's own reading -/
theorem whileR {c : TT} {tb : TS} {D : Ends} {σ : L2.St} {H : Hp} (Pv : L2.St → Hp → Prop) (μ : L2.St → Hp → Nat) (h0 : Pv σ H)
    (hs : ∀ σ H, Pv σ H → c σ H fun b H1 => if b = true then tb { D with nx := fun σ' H' => Pv σ' H' ∧ μ σ' H' < μ σ H, ct := fun σ' H' => Pv σ' H' ∧ μ σ' H' < μ σ H, bk := D.nx } σ H1 else D.nx σ H1)
    (mono : ∀ σ H Q Q', (∀ b H1, Q b H1 → Q' b H1) → c σ H Q → c σ H Q') : ∃ W : Nat → L2.St → Hp → Prop, (∃ m, W m σ H) ∧ ∀ m σ H, W m σ H → c σ H fun b H1 => if b = true then ∃ N : L2.St → Hp → Prop, (∀ σ' H', N σ' H' → ∃ m', m' < m ∧ W m' σ' H') ∧ tb { D with nx := N, ct := N, bk := D.nx } σ H1 else D.nx σ H1 :=
  while_by Pv μ h0 hs mono
end KW
namespace KW
open PySem PySem.Spec PyProof.Rows L2 KG
/-! ### methods, makers -/
def MethAt (K : PySem.W.Frag) (C : Addr) (m qual : Str) (st : Stmt) : Prop := ∃ f fd, FunD K m qual (defArgs st) (defBody st) (defScope st) [] [] f fd ∧ Meth K C m f
def InitAt (K : PySem.W.Frag) (mg : Str → Option Value) (x : Str) (C : Addr) (qual : Str) (st : Stmt) : Prop := ∃ f fd, FunD K "__init__" qual (defArgs st) (defBody st) (defScope st) [] [] f fd ∧ Mk K C f ∧ mg x = some (.ref C)
theorem met_of {P : Program} {w : World} {K : PySem.W.Frag} {mg : Str → Option Value} {base : Heap} {m qual : Str} {C : Addr} {st : Stmt} {N ps : List Str} {k : Nat} {sp : Sp} (c : Cls K C) (D : MethAt K C m qual st) (S : FnScope N ps (defScope st)) (hb : BindsN m qual st ps)
    (len : ∀ vs H Q E, sp vs H Q E → vs.length = ps.length) (hbody : BodyOk P w K mg base CX0 N qual st k sp) : C8.Met P w K mg base (k + 1) C m sp [] := by
  obtain ⟨f, fd, F, hm⟩ := D
  exact ⟨f, fd, ps, [], c, hm, F.ok S len (fun cdv A outer s H vs Q E hr h => (hbody f cdv A outer s H vs Q E hr h).imp fun t q => ⟨PSs.nox q.1, q.2⟩), F.bindsN hb, .nil⟩
theorem mak_of {P : Program} {w : World} {K : PySem.W.Frag} {mg : Str → Option Value} {base : Heap} {x qual : Str} {C : Addr} {st : Stmt} {N ps : List Str} {k : Nat} {sp : Sp} (D : InitAt K mg x C qual st) (S : FnScope N ps (defScope st)) (hb : BindsN "__init__" qual st ps)
    (len : ∀ vs H Q E, sp vs H Q E → vs.length = ps.length) (hbody : BodyOk P w K mg base CX0 N qual st k sp) : C8.Mak P w K mg base (k + 1) x C sp [] := by
  obtain ⟨f, fd, F, hm, hx⟩ := D
  exact ⟨f, fd, ps, [], hm, F.ok S len (fun cdv A outer s H vs Q E hr h => (hbody f cdv A outer s H vs Q E hr h).imp fun t q => ⟨PSs.nox q.1, q.2⟩), hx, F.bindsN hb, .nil⟩
end KW
namespace KW
open PySem PySem.Spec PyProof.Rows L2 KG
/-! ### within a comprehension's block: the written part by its own name -/
theorem ixl {X : Cx} {K : PySem.W.Frag} (h : X.K = K) : IxR X (rIxL K) := h ▸ ix_list
theorem ixt {X : Cx} {K : PySem.W.Frag} (h : X.K = K) : IxR X (rIxT K) := h ▸ ix_tup
theorem sll {X : Cx} {K : PySem.W.Frag} (h : X.K = K) : SlR X (rSlL K) := h ▸ sl_list
end KW
namespace KT
open PySem PyProof.Rows KG
abbrev LL := List Nat
def pieceC : LL := [112, 105, 101, 99, 101]
def reasonC : LL := [114, 101, 97, 115, 111, 110]
def cuttingC : LL := [99, 117, 116, 116, 105, 110, 103]
def dig (c : Nat) : Bool := decide (48 ≤ c) && decide (c ≤ 57)
def isPlainL (w : LL) : Bool := !(w == [] || decide (60 < w.length) || !(w.all dig)) && (w == [48] || !(w.head? == some 48))
def isSignedL (w : LL) : Bool := if w.head? = some 45 then !(w == [45, 48]) && isPlainL w.tail else isPlainL w
def intL (w : LL) : Int := if w.head? = some 45 then -((NumText.digitsVal w.tail : Nat) : Int) else ((NumText.digitsVal w : Nat) : Int)
def pieceW : List LL → Option Pc
  | [a, b, c, d, e] => if a = pieceC ∧ isPlainL b = true ∧ isPlainL e = true ∧ isSignedL c = true ∧ isSignedL d = true then some (intL b, intL c, intL d, intL e) else none
  | _ => none
def reasonW : List LL → Option L3
  | [a, b, c, d] => if a = reasonC ∧ isPlainL b = true ∧ isPlainL c = true ∧ isPlainL d = true then some (intL b, intL c, intL d) else none
  | _ => none
def wordsL (l : LL) : List LL := TL.spl [32] 0 [] l
def linesL (l : LL) : List LL := TL.spl [10] 0 [] l
def pieceL (l : LL) : Option Pc := pieceW (wordsL l)
def reasonL (l : LL) : Option L3 := reasonW (wordsL l)
def goL : Bool → List LL → List Pc → List L3 → Option (List Pc × List L3)
  | _, [], ps, rs => some (ps, rs)
  | true, x :: l, ps, rs => match pieceL x with
    | some p => goL false l (ps ++ [p]) rs
    | none => none
  | false, x :: l, ps, rs => match reasonL x with
    | some r => goL true l ps (rs ++ [r])
    | none => none
def readW : List LL → Option (List Pc × List L3)
  | [] => none
  | h :: l => if h = cuttingC then (match goL true l [] [] with
    | none => none
    | some (ps, rs) => if l ≠ [] ∧ rs.length = ps.length then none else some (ps, rs)) else none
theorem goL_t {x : LL} {l : List LL} {ps : List Pc} {rs : List L3} {p : Pc} (e : pieceL x = some p) : goL true (x :: l) ps rs = goL false l (ps ++ [p]) rs := by
  show (match pieceL x with
    | some p => goL false l (ps ++ [p]) rs
    | none => none) = _
  rw [e]
theorem goL_f {x : LL} {l : List LL} {ps : List Pc} {rs : List L3} {r : L3} (e : reasonL x = some r) : goL false (x :: l) ps rs = goL true l ps (rs ++ [r]) := by
  show (match reasonL x with
    | some r => goL true l ps (rs ++ [r])
    | none => none) = _
  rw [e]
theorem goL_nil {b : Bool} {ps : List Pc} {rs : List L3} : goL b [] ps rs = some (ps, rs) := by cases b <;> rfl
theorem readW_not {h : LL} {l : List LL} (c : h ≠ cuttingC) : readW (h :: l) = none := if_neg c
theorem readW_none {l : List LL} (g : goL true l [] [] = none) : readW (cuttingC :: l) = none := by
  show (if cuttingC = cuttingC then (match goL true l [] [] with
    | none => none
    | some (ps, rs) => if l ≠ [] ∧ rs.length = ps.length then none else some (ps, rs)) else none) = none
  rw [if_pos rfl, g]
theorem readW_some {l : List LL} {ps : List Pc} {rs : List L3} (g : goL true l [] [] = some (ps, rs)) : readW (cuttingC :: l) = if l ≠ [] ∧ rs.length = ps.length then none else some (ps, rs) := by
  show (if cuttingC = cuttingC then (match goL true l [] [] with
    | none => none
    | some (ps, rs) => if l ≠ [] ∧ rs.length = ps.length then none else some (ps, rs)) else none) = _
  rw [if_pos rfl, g]
def readL (t : LL) : Option (List Pc × List L3) := readW (linesL t)
/-! ### writing -/
def numI (i : Int) : LL := if i < 0 then 45 :: TL.numL i.natAbs else TL.numL i.natAbs
def pieceT (p : Pc) : LL := TL.joinL [32] [pieceC, numI p.1, numI p.2.1, numI p.2.2.1, numI p.2.2.2]
def reasonT (r : L3) : LL := TL.joinL [32] [reasonC, numI r.1, numI r.2.1, numI r.2.2]
def bodyL : List Pc → List L3 → List LL
  | [], _ => []
  | p :: ps, [] => pieceT p :: bodyL ps []
  | p :: ps, r :: rs => pieceT p :: reasonT r :: bodyL ps rs
def writeW (ps : List Pc) (rs : List L3) : List LL := cuttingC :: bodyL ps rs
/-! ### numbers -/
theorem all_dig {w : LL} : w.all dig = true ↔ NumText.AllDigits w := by
  rw [List.all_eq_true]
  refine ⟨fun h c hc => ?_, fun h c hc => ?_⟩
  · have := h c hc
    unfold dig at this
    rw [Bool.and_eq_true, decide_eq_true_eq, decide_eq_true_eq] at this
    exact this
  · unfold dig
    rw [Bool.and_eq_true, decide_eq_true_eq, decide_eq_true_eq]
    exact h c hc
theorem plain_is {w : LL} (h : isPlainL w = true) : w ≠ [] ∧ w.length ≤ 60 ∧ NumText.AllDigits w := by
  unfold isPlainL at h
  rw [Bool.and_eq_true, Bool.not_eq_true', Bool.or_eq_false_iff, Bool.or_eq_false_iff] at h
  obtain ⟨⟨⟨h1, h2⟩, h3⟩, _⟩ := h
  refine ⟨fun z => ?_, ?_, all_dig.mp (by simpa using h3)⟩
  · rw [z] at h1
    cases h1
  · have := of_decide_eq_false h2
    omega
theorem head_dig {w : LL} (h : NumText.AllDigits w) : ¬ w.head? = some 45 := by
  cases w with
  | nil => intro z; cases z
  | cons c r =>
    intro z
    have := h.head
    have e : c = 45 := Option.some.inj z
    omega
theorem int_plain {w : LL} (h : isPlainL w = true) : intText? (SX.S w) = some (intL w) := by
  obtain ⟨h1, h2, h3⟩ := plain_is h
  unfold intL
  rw [if_neg (head_dig h3)]
  exact intText_digits (x := SX.S w) h3 h1 (by rw [SX.S_len]; omega)
theorem int_signed {w : LL} (h : isSignedL w = true) : w.length ≤ 61 ∧ intText? (SX.S w) = some (intL w) := by
  unfold isSignedL at h
  split at h
  · rename_i hh
    rw [Bool.and_eq_true] at h
    obtain ⟨h1, h2, h3⟩ := plain_is h.2
    cases w with
    | nil => cases hh
    | cons c r =>
      have e : c = 45 := Option.some.inj hh
      subst e
      refine ⟨by rw [List.length_cons]; exact Nat.succ_le_succ h2, ?_⟩
      unfold intL
      rw [if_pos hh]
      exact intText_neg (x := SX.S (45 :: r)) rfl h3 h1 (by rw [SX.S_len, List.length_cons]; have : r.length ≤ 60 := h2; omega)
  · exact ⟨Nat.le_succ_of_le (plain_is h).2.1, int_plain h⟩
theorem numL_lead : ∀ n : Nat, 0 < n → ∃ c r, TL.numL n = c :: r ∧ c ≠ 48 := by
  intro n
  induction n using Nat.strongRecOn with
  | _ n ih =>
    intro h
    by_cases h1 : n < 10
    · exact ⟨_, _, TL.numL_lt h1, by omega⟩
    · obtain ⟨c, r, e, hc⟩ := ih (n / 10) (by omega) (by omega)
      exact ⟨c, r ++ [48 + n % 10], by rw [TL.numL_step (by omega), e]; rfl, hc⟩
theorem plain_num {n : Nat} (h : n < 10 ^ 60) : isPlainL (TL.numL n) = true := by
  have l := TL.numL_len (k := 60) (by decide) h
  have d := all_dig.mpr (TL.numL_digits n)
  have ne : (TL.numL n == []) = false := by
    cases e : TL.numL n with
    | nil => exact absurd e (TL.numL_ne n)
    | cons c r => rfl
  unfold isPlainL
  rw [ne, d, decide_eq_false (show ¬ 60 < (TL.numL n).length by omega)]
  by_cases z : n = 0
  · subst z
    decide +kernel
  · obtain ⟨c, r, e, hc⟩ := numL_lead n (by omega)
    rw [e]
    have : ((c :: r).head? == some 48) = false := by
      show (some c == some 48) = false
      simpa using hc
    rw [this]
    simp
theorem numI_nat (n : Nat) : numI (n : Int) = TL.numL n := by
  unfold numI
  rw [if_neg (by omega)]
  rfl
theorem numI_nn {i : Int} (h : 0 ≤ i) : numI i = TL.numL i.natAbs := by
  unfold numI
  rw [if_neg (by omega)]
theorem plain_numI {i : Int} (h0 : 0 ≤ i) (h : i.natAbs < 10 ^ 60) : isPlainL (numI i) = true := by
  rw [numI_nn h0]
  exact plain_num h
theorem int_numI (i : Int) : intL (numI i) = i := by
  unfold numI
  split
  · unfold intL
    rw [if_pos (show (45 :: TL.numL i.natAbs).head? = some 45 from rfl)]
    show -((NumText.digitsVal (TL.numL i.natAbs) : Nat) : Int) = i
    rw [TL.numL_val]
    omega
  · unfold intL
    rw [if_neg (head_dig (TL.numL_digits _)), TL.numL_val]
    omega
theorem signed_numI {i : Int} (h : i.natAbs < 10 ^ 60) : isSignedL (numI i) = true := by
  unfold numI
  split
  · rename_i hi
    unfold isSignedL
    rw [if_pos (show (45 :: TL.numL i.natAbs).head? = some 45 from rfl)]
    show (!(45 :: TL.numL i.natAbs == [45, 48]) && isPlainL (TL.numL i.natAbs)) = true
    rw [plain_num h, Bool.and_true, Bool.not_eq_true']
    obtain ⟨c, r, e, hc⟩ := numL_lead i.natAbs (by omega)
    rw [e]
    cases z : (45 :: c :: r == [45, 48]) with
    | false => rfl
    | true =>
      have := eq_of_beq z
      injection this with _ q
      injection q with q _
      exact absurd q hc
  · unfold isSignedL
    rw [if_neg (head_dig (TL.numL_digits _))]
    exact plain_num h
theorem numI_free {i : Int} {s : Nat} (h : s < 45 ∨ 57 < s) : s ∉ numI i := by
  unfold numI
  split
  · intro hm
    rcases List.mem_cons.mp hm with q | q
    · omega
    · exact TL.numL_free (by omega) q
  · exact TL.numL_free (by omega)
theorem numI_len {i : Int} {k : Nat} (hk : 0 < k) (h : i.natAbs < 10 ^ k) : (numI i).length ≤ k + 1 := by
  have := TL.numL_len hk h
  unfold numI
  split
  · rw [List.length_cons]
    omega
  · omega
/-- str(i) -/
theorem str_int (i : Int) : Str.ofString (toString i) = SX.S (numI i) := by
  by_cases h : 0 ≤ i
  · obtain ⟨n, rfl⟩ := Int.eq_ofNat_of_zero_le h
    rw [numI_nat]
    exact SX.num_S n
  · obtain ⟨n, rfl⟩ := Int.eq_negSucc_of_lt_zero (by omega : i < 0)
    refine TL.ext_tl ?_
    unfold numI
    rw [if_pos (by omega)]
    show TL.tl (Str.ofString ("-" ++ toString (n + 1))) = 45 :: TL.numL (n + 1)
    rw [TL.tl_ofString, String.toList_append, List.map_append]
    have e := TL.tl_num (n + 1)
    rw [TL.tl_ofString] at e
    exact congrArg (fun z => 45 :: z) e
/-! ### the read-back -/
def Big (i : Int) : Prop := i.natAbs < 10 ^ 60
structure PcN (p : Pc) : Prop where
  s : 0 ≤ p.1
  d : 0 ≤ p.2.2.2
  b1 : Big p.1
  b2 : Big p.2.1
  b3 : Big p.2.2.1
  b4 : Big p.2.2.2
structure RsN (r : L3) : Prop where
  a : 0 ≤ r.1 ∧ Big r.1
  b : 0 ≤ r.2.1 ∧ Big r.2.1
  c : 0 ≤ r.2.2 ∧ Big r.2.2
theorem pieceL_T {p : Pc} (h : PcN p) : pieceL (pieceT p) = some p := by
  unfold pieceL pieceT wordsL
  rw [TL.spl_join (by simp) ?_]
  · show (if pieceC = pieceC ∧ _ then _ else _) = _
    rw [if_pos ⟨rfl, plain_numI h.s h.b1, plain_numI h.d h.b4, signed_numI h.b2, signed_numI h.b3⟩, int_numI, int_numI, int_numI, int_numI]
  · intro q hq
    simp only [List.mem_cons, List.not_mem_nil, or_false] at hq
    rcases hq with rfl | rfl | rfl | rfl | rfl
    · decide
    all_goals exact numI_free (by omega)
theorem reasonL_T {r : L3} (h : RsN r) : reasonL (reasonT r) = some r := by
  unfold reasonL reasonT wordsL
  rw [TL.spl_join (by simp) ?_]
  · show (if reasonC = reasonC ∧ _ then _ else _) = _
    rw [if_pos ⟨rfl, plain_numI h.a.1 h.a.2, plain_numI h.b.1 h.b.2, plain_numI h.c.1 h.c.2⟩, int_numI, int_numI, int_numI]
  · intro q hq
    simp only [List.mem_cons, List.not_mem_nil, or_false] at hq
    rcases hq with rfl | rfl | rfl | rfl
    · decide
    all_goals exact numI_free (by omega)
theorem goL_body : ∀ {ps : List Pc} {rs : List L3} (a : List Pc) (b : List L3), rs.length + 1 = ps.length → (∀ p ∈ ps, PcN p) → (∀ r ∈ rs, RsN r) → goL true (bodyL ps rs) a b = some (a ++ ps, b ++ rs)
  | [], rs, a, b, h, _, _ => by simp at h
  | [p], [], a, b, _, hp, _ => by
    show goL true [pieceT p] a b = _
    unfold goL
    rw [pieceL_T (hp p (List.mem_cons_self ..))]
    show goL false [] (a ++ [p]) b = _
    rw [List.append_nil]
    rfl
  | p :: q :: ps, [], a, b, h, _, _ => by simp at h
  | p :: ps, r :: rs, a, b, h, hp, hr => by
    show goL true (pieceT p :: reasonT r :: bodyL ps rs) a b = _
    unfold goL
    rw [pieceL_T (hp p (List.mem_cons_self ..))]
    show goL false (reasonT r :: bodyL ps rs) (a ++ [p]) b = _
    unfold goL
    rw [reasonL_T (hr r (List.mem_cons_self ..))]
    show goL true (bodyL ps rs) (a ++ [p]) (b ++ [r]) = _
    rw [goL_body (a ++ [p]) (b ++ [r]) (by simpa using h) (fun x hx => hp x (List.mem_cons_of_mem _ hx)) (fun x hx => hr x (List.mem_cons_of_mem _ hx)), List.append_assoc, List.append_assoc]
    rfl
theorem joinL_free {s : Nat} {sep : LL} (hs : s ∉ sep) : ∀ {parts : List LL}, (∀ p ∈ parts, s ∉ p) → s ∉ TL.joinL sep parts
  | [], _ => by simp [TL.joinL]
  | [p], h => h p (List.mem_cons_self ..)
  | p :: q :: r, h => by
    show s ∉ p ++ (sep ++ TL.joinL sep (q :: r))
    intro hm
    rcases List.mem_append.mp hm with z | z
    · exact h p (List.mem_cons_self ..) z
    · rcases List.mem_append.mp z with z | z
      · exact hs z
      · exact joinL_free hs (fun x hx => h x (List.mem_cons_of_mem _ hx)) z
theorem pieceT_free (p : Pc) : 10 ∉ pieceT p := by
  refine joinL_free (by decide) fun q hq => ?_
  simp only [List.mem_cons, List.not_mem_nil, or_false] at hq
  rcases hq with rfl | rfl | rfl | rfl | rfl
  · decide
  all_goals exact numI_free (by omega)
theorem reasonT_free (r : L3) : 10 ∉ reasonT r := by
  refine joinL_free (by decide) fun q hq => ?_
  simp only [List.mem_cons, List.not_mem_nil, or_false] at hq
  rcases hq with rfl | rfl | rfl | rfl
  · decide
  all_goals exact numI_free (by omega)
theorem body_free : ∀ {ps : List Pc} {rs : List L3} {x : LL}, x ∈ bodyL ps rs → 10 ∉ x
  | [], _, x, h => by simp [bodyL] at h
  | p :: ps, [], x, h => by
    rcases List.mem_cons.mp h with e | h
    · rw [e]
      exact pieceT_free p
    · exact body_free h
  | p :: ps, r :: rs, x, h => by
    rcases List.mem_cons.mp h with e | h
    · rw [e]
      exact pieceT_free p
    · rcases List.mem_cons.mp h with e | h
      · rw [e]
        exact reasonT_free r
      · exact body_free h
theorem lines_join {ls : List LL} (hne : ls ≠ []) (h : ∀ x ∈ ls, 10 ∉ x) : linesL (TL.joinL [10] ls) = ls := TL.spl_join hne h
theorem write_free {ps : List Pc} {rs : List L3} {x : LL} (h : x ∈ writeW ps rs) : 10 ∉ x := by
  rcases List.mem_cons.mp h with e | h
  · rw [e]
    decide
  · exact body_free h
/-- what was written is read back -/
theorem read_write {ps : List Pc} {rs : List L3} (h : rs.length + 1 = ps.length ∨ (ps = [] ∧ rs = [])) (hp : ∀ p ∈ ps, PcN p) (hr : ∀ r ∈ rs, RsN r) : readL (TL.joinL [10] (writeW ps rs)) = some (ps, rs) := by
  unfold readL
  rw [lines_join (by simp [writeW]) fun x hx => write_free hx]
  rcases h with h | ⟨rfl, rfl⟩
  · show readW (cuttingC :: bodyL ps rs) = _
    rw [readW_some (goL_body [] [] h hp hr), if_neg (by rintro ⟨_, z⟩; simp at z; omega)]
    rfl
  · rfl
/-! ### sizes -/
def tot (ls : List LL) : Nat := (ls.map fun x => x.length + 1).sum
theorem tot_cons (x : LL) (l : List LL) : tot (x :: l) = x.length + 1 + tot l := by
  unfold tot
  rw [List.map_cons, List.sum_cons]
theorem tot_app (l m : List LL) : tot (l ++ m) = tot l + tot m := by
  unfold tot
  rw [List.map_append, List.sum_append]
theorem tot_len (l : List LL) : l.length ≤ tot l := by
  induction l with
  | nil => exact Nat.le_refl _
  | cons x l ih =>
    rw [tot_cons, List.length_cons]
    omega
theorem tot_mem {l : List LL} {x : LL} (h : x ∈ l) : x.length + 1 ≤ tot l := by
  induction l with
  | nil => cases h
  | cons y l ih =>
    rw [tot_cons]
    rcases List.mem_cons.mp h with rfl | h
    · omega
    · have := ih h
      omega
theorem tot_take_drop (l : List LL) (n : Nat) : tot (l.take n) + tot (l.drop n) = tot l := by rw [← tot_app, List.take_append_drop]
theorem tot_spl (s : Nat) : ∀ (l acc : LL), tot (TL.spl [s] 0 acc l) ≤ acc.length + l.length + 1
  | [], acc => by
    rw [TL.spl_nil, tot_cons]
    show acc.length + 1 + 0 ≤ _
    simp
  | c :: r, acc => by
    cases h : TL.pre [s] (c :: r) with
    | true =>
      rw [TL.spl_hit h, tot_cons]
      have := tot_spl s r []
      show acc.length + 1 + tot (TL.spl [s] 0 [] r) ≤ _
      simp only [List.length_nil, List.length_cons] at this ⊢
      omega
    | false =>
      rw [TL.spl_miss h]
      have := tot_spl s r (acc ++ [c])
      simp only [List.length_append, List.length_nil, List.length_cons] at this ⊢
      omega
theorem tot_lines (t : LL) : tot (linesL t) ≤ t.length + 1 := by
  have := tot_spl 10 t []
  unfold linesL
  simpa using this
theorem tot_words (t : LL) : tot (wordsL t) ≤ t.length + 1 := by
  have := tot_spl 32 t []
  unfold wordsL
  simpa using this
theorem joinL_len (s : Nat) : ∀ ls : List LL, (TL.joinL [s] ls).length ≤ tot ls
  | [] => Nat.zero_le _
  | [p] => by
    rw [tot_cons]
    show p.length ≤ _
    omega
  | p :: q :: r => by
    have := joinL_len s (q :: r)
    rw [tot_cons]
    show (p ++ ([s] ++ TL.joinL [s] (q :: r))).length ≤ _
    rw [List.length_append, List.length_append]
    simp only [List.length_cons, List.length_nil]
    omega
theorem go_len : ∀ {b : Bool} {l : List LL} {ps ps' : List Pc} {rs rs' : List L3}, goL b l ps rs = some (ps', rs') → ps'.length ≤ ps.length + l.length
  | _, [], ps, ps', rs, rs', h => by
    unfold goL at h
    cases h
    exact Nat.le_refl _
  | true, x :: l, ps, ps', rs, rs', h => by
    unfold goL at h
    split at h
    · have := go_len h
      simp only [List.length_append, List.length_cons, List.length_nil] at this ⊢
      omega
    · cases h
  | false, x :: l, ps, ps', rs, rs', h => by
    unfold goL at h
    split at h
    · have := go_len h
      simp only [List.length_cons] at this ⊢
      omega
    · cases h
theorem read_len {t : LL} {ps : List Pc} {rs : List L3} (h : readL t = some (ps, rs)) : ps.length ≤ t.length + 1 := by
  unfold readL at h
  have hl := Nat.le_trans (tot_len (linesL t)) (tot_lines t)
  cases e : linesL t with
  | nil =>
    rw [e] at h
    cases h
  | cons x l =>
    rw [e] at h hl
    by_cases c : x = cuttingC
    · subst c
      cases g : goL true l [] [] with
      | none =>
        rw [readW_none g] at h
        cases h
      | some q =>
        obtain ⟨ps', rs'⟩ := q
        rw [readW_some g] at h
        split at h
        · cases h
        · cases h
          have := go_len g
          simp only [List.length_cons, List.length_nil] at this hl
          omega
    · rw [readW_not c] at h
      cases h
theorem pieceW_len {ws : List LL} (h : ws.length ≠ 5) : pieceW ws = none := by
  unfold pieceW
  split
  · simp at h
  · rfl
theorem reasonW_len {ws : List LL} (h : ws.length ≠ 4) : reasonW ws = none := by
  unfold reasonW
  split
  · simp at h
  · rfl
end KT
namespace KX
open PySem PySem.W PySem.Calls PyProof.Rows PySem.HandSPX
abbrev s_Ip : Stmt := L2.inClass (KW.topS 23) 0
/-- what the written part says of InvalidPaper, at C, and of its __init__, at fI -/
structure IpTxt (P : Program) (K : Frag) (mg : Str → Option Value) (C fI : Addr) : Prop where
  gC : mg "InvalidPaper" = some (.ref C)
  cls : ∃ nm q N bs bm sn sub ab col dd k0 k1 k2 k3 k5, K.lookup C = some (excClassObj nm q C N bs bm true sn sub ab col dd k0 k1 k2 k3 k5 "ValueError.__new__") ∧ refsVE bm = true
  sa : findIn K (.ref C) "__setattr__" = some (some (.builtin "object.__setattr__"))
  noN : findIn K (.ref C) "line" = some none
  iC : findIn K (.ref C) "__init__" = some (some (.ref fI))
  tC : typeIn K (.ref fI) = some (.type "function")
  kC : keepIn K (.ref C) = true
  exC : subIn K (.ref C) (.type "BaseException") = some true
  veC : subIn K (.ref C) (.type "ValueError") = some true
  tyC : typeIn K (.ref C) = some (.type "type")
  te : exmOne K (.ref C) (.ref C) = some true
  sup : ks_superIn K C C "__init__" = some (some (.builtin "ValueError.__init__"))
  opq : nsIn K cStatics "thirdparty.any" = some none
  noS : mg "super" = none
  noStr : mg "str" = none
  top : (P.main.scope.names.lookup ("super" : Str)).isSome = false
  fn : ∃ (oc : Value) (od : Option Addr) (doc pm : Value) (an : Option Addr) (ct : Value) (osl : Array (Option Value)) (cda cc : Addr) (o1 : Obj) (fv : Array Value) (file : Str) (tf : Tok) (o2 : Obj),
    K.lookup fI = some ⟨oc, od, .func (ksFn "__init__" "InvalidPaper.__init__" (L2.defArgs s_Ip) (L2.defBody s_Ip) (L2.defScope s_Ip) .none .none doc pm an (.ref cda) ct cc), osl⟩ ∧ codeIn K (.ref cda) "InvalidPaper.__init__" = true ∧
    K.lookup cda = some o1 ∧ o1.data = .fields fv ∧ fv[2]? = some (.str file tf) ∧ ((P.main.file : Str) == file) = true ∧ K.lookup cc = some o2 ∧ o2.data = .cell (some (.ref C))
theorem one_size (v : Value) : [v].length ≤ sizeLine := by
  rw [sizeLine_eq]
  exact (by decide : 1 ≤ 16777216)
/-- what __init__ leaves of a fresh exception at x -/
structure InitEnd (h h' : Heap) (x C dx t1 : Addr) (v : Value) : Prop where
  keep : ∀ b o, b ≠ x → h.get? b = some o → h'.get? b = some o
  obj : h'.get? x = some { cls := .ref C, dict := some dx, data := .fields #[.ref t1, .none, .none, .none, .bool false, .none] }
  dbig : h.objs.size ≤ dx
  dne : dx ≠ x
  ns : h'.Ns1 dx (fun y => if y = "line" then some v else none)
/-- a made InvalidPaper -/
structure OwnMade (h h' : Heap) (e C d : Addr) (v : Value) : Prop where
  keep : ∀ b o, h.get? b = some o → h'.get? b = some o
  new : h.objs.size ≤ e
  obj : ∃ oe vs, h'.get? e = some oe ∧ oe.cls = .ref C ∧ oe.dict = some d ∧ oe.data = .fields vs ∧ vs[1]? = some .none
  dbig : h.objs.size ≤ d
  dne : d ≠ e
  ns : h'.Ns1 d (fun y => if y = "line" then some v else none)
section
variable {prog : Program} {w : World} {A : Around} {E : Value → Shared → Prop} {R : Result → Shared → Prop} {s : Shared} {K : Frag} {mg : Str → Option Value} {C fI : Addr}
theorem callW1 {M : Model} {pos : Pos} {env : Env} {e : Expr} {rest : List Expr} {Q : Value → Shared → Prop} {u x : Addr} {i : String}
    (h : wpAny M A (spliced (backTo pos (starEach (e :: rest) env))) (fun vs s₁ => KxsAt i u x s₁.heap ∧ wpAny M A (call (.ref u) vs) Q E s₁) E s)
    (he : starEach (e :: rest) env = (false, eval e env) :: starEach rest env := by rfl) (hplain : (backTo pos (starEach rest env)).any (·.1) = false := by rfl) :
    wpAny M A (callWith pos (.ref u) [] (backTo pos (starEach (e :: rest) env)) []) Q E s := by
  rw [he] at h ⊢
  refine kxs_callWith (i := i) (x := x) (by show (false || (backTo pos (starEach rest env)).any (·.1)) = false; rw [hplain]; rfl) ?_
  exact Calls.evalArgs_plain h
theorem initCall {hh : Heap} {u x t0 : Addr} {rest : List Value} {Q : Value → Shared → Prop} {bm : List Value} {nm q : Str} {N : Addr} {bs : List Value} {hdct : Bool} {sn : List Str} {sub : List Value} {ab : Bool} {col : Option Bool} {dd : Option Addr} {k0 k1 k2 k3 k5 : Option Value}
    (hs : s.heap = hh) (hu : hh.get? u = some (kxs_mw "ValueError.__init__" x)) (hx : hh.get? x = some (excO C t0)) (hC : hh.get? C = some (excClassObj nm q C N bs bm hdct sn sub ab col dd k0 k1 k2 k3 k5 "ValueError.__new__")) (hz : rest.length ≤ sizeLine)
    (fin : ∀ h', (∀ b o, b ≠ x → hh.get? b = some o → h'.get? b = some o) → h'.get? x = some (excO C hh.objs.size) → h'.get? hh.objs.size = some (excTup rest) → Q .none { s with heap := h' }) :
    wpAny (model prog w) A (call (.ref u) rest) Q E s := by
  subst hs
  obtain ⟨hh, g, d, tk, os⟩ := s
  have FB := F.excBase_ValueError
  refine wpAny_call (codeAny_of_tree ?_)
  show wpAny _ A.in1 (callAny (.ref u) ⟨rest, []⟩) _ _ _
  simp only [callAny]
  refine wpAny_bind (wpAny_load hu ?_)
  simp only [kxs_mw, show (Value.type "method-wrapper" == Value.type "method" || Value.type "method-wrapper" == Value.type "builtin_function_or_method" || Value.type "method-wrapper" == Value.type "method-wrapper") = true by decide, if_true]
  refine KFB.if_so (by decide) ?_
  refine wpAny_bind (check_bound_init FB.toExcCallFacts hC hx rfl ?_)
  refine wpAny_bind (wpAny_pure (wpAny_pure ?_))
  refine ⟨plainId_quiet FB.init.plain _, codeAny_builtin FB.initEntry ?_⟩
  exact exc_init_tree (cls := .ref C) (t0 := t0) (dv := none) (c2 := .none) (c3 := .none) (b4 := .bool false) hx hz fin
theorem num_len {n : Int} (h0 : 0 ≤ n) (h1 : n < 10 ^ 18) : (Str.ofString (toString n)).length ≤ 18 := toString_length_le h0 (by decide) h1
theorem ip_init (T : IpTxt prog K mg C fI) {x t0 : Addr} {n : Int} {tn : Tok} (X : K.In s.heap) (hlim : s.heap.NoLimit) (MG : s.heap.Ns mainGlobals mg) (MB : ∃ mb, s.heap.Ns builtinsNs mb ∧ ∀ x : Str, x ≠ "__name__" → mb x = bootBuiltins x)
    (hx : s.heap.get? x = some (excO C t0)) (hnx : K.lookup x = none) (hroom : A.depth < recursionLimit) (n0 : 0 ≤ n) (n1 : n < 10 ^ 18)
    (hq : ∀ h' tk dx t1, InitEnd s.heap h' x C dx t1 (.int n tn) → R (.ok (.ret .none)) { s with heap := h', toks := tk }) :
    codeAny (model prog w) A (.call (.ref fI) ⟨[.ref x, .int n tn], []⟩) R s := by
  obtain ⟨oc, od, doc, pm, an, ct, osl, cda, cc, o1, fv, file, tf, o2, ho, hcd, hcode, ho1, hvs, hfile, hcell, ho2⟩ := T.fn
  obtain ⟨nm, q, N, bs, bm, sn, sub, ab, col, dd, k0, k1, k2, k3, k5, hC, hbm⟩ := T.cls
  obtain ⟨mb, MB, mbx⟩ := MB
  have hcl : clsIn K C = some { name := nm, bases := bs, mro := .ref C :: bm, ns := N, qualname := q, hasDict := true, slotNames := sn, subclasses := sub, abstract := ab, collection := col, hasDel := false } := by unfold clsIn; rw [hC] <;> rfl
  have hmr : mroIn K C (.ref C) = some true := by
    unfold mroIn
    rw [hcl]
    simp
  refine ks_codeAny_call_defAt (fd := ksFn "__init__" "InvalidPaper.__init__" (L2.defArgs s_Ip) (L2.defBody s_Ip) (L2.defScope s_Ip) .none .none doc pm an (.ref cda) ct cc) (body := L2.defBody s_Ip) (binds := [("self", .ref x), ("line", .int n tn)])
    hroom (X _ _ ho) rfl hlim (codeRec_of X hcd) rfl (BindsTo.of_eq (by rfl)) (show ∀ x ∈ (L2.defScope s_Ip).names, x.2 ≠ .cell by decide +kernel) (by intro y hy; simp only [List.mem_cons, List.not_mem_nil, or_false] at hy; rcases hy with rfl | rfl; exact (show (L2.defScope s_Ip).names.lookup (PySem.Str.ofString "self") = some .local by decide +kernel); exact (show (L2.defScope s_Ip).names.lookup (PySem.Str.ofString "line") = some .local by decide +kernel)) (fun h0 hns hk0 => ?_) (by rfl) (by rfl) (by rfl)
  have X0 : K.In h0 := X.keeps hk0
  have MG0 := MG.keeps hk0
  have MB0 := MB.keeps hk0
  have hx0 := hk0 _ _ hx
  show _root_.PySem.wpAt _ (A.deeper (ksEnv "InvalidPaper.__init__" (L2.defScope s_Ip) s.heap.objs.size fI (.ref cda) cc)) (.func (L2.defBody s_Ip) (ksEnv "InvalidPaper.__init__" (L2.defScope s_Ip) s.heap.objs.size fI (.ref cda) cc)) (execs (L2.defBody s_Ip) (ksEnv "InvalidPaper.__init__" (L2.defScope s_Ip) s.heap.objs.size fI (.ref cda) cc)) _ _ _
  refine ks_wpAt_execs_cons ?_
  refine ks_wpAt_Expr_any ?_ (by rfl) (by rfl)
  refine ks_wpAt_MethodCall ?_ (by rfl)
  refine ks_wpAt_super_base (f := fI) (by rfl) (by rfl) (by rfl) (by rfl) (hk0 _ _ (X _ _ ho)) (by rfl) (by rfl) (by rfl) (hk0 _ _ (X _ _ hcode)) ho1 hvs hfile T.top ?_
  refine ks_loadName_global (by rfl) (by rfl) (loadGlobal_builtin MG0 T.noS MB0 ((mbx _ (by decide)).trans (by rfl)) ⟨rfl, ?_⟩)
  refine wpAny_loadName_free (by rfl) (by rfl) (by rfl) ⟨_, hk0 _ _ (X _ _ hcell), ho2⟩ ?_
  refine wpAny_loadName_local (v := .ref x) (by rfl) (by rfl) hns (by rfl) ?_
  refine ks_wpAny_isType_cls (X0 _ _ hC) (by rfl) ⟨rfl, ?_⟩
  refine ks_wpAny_call_super (X0 _ _ hC) (by rfl) hx0 (by rfl) (fun c e => by cases e) (looks_mroIn X0 hmr) (fun h1 e1 kk1 => ?_)
  have X1 : K.In h1 := X0.keeps kk1
  have hx1 := kk1 _ _ hx0
  have I1 : InstAt h1 x (excO C t0) C none := ⟨hx1, rfl, rfl, trivial⟩
  have sup := T.sup
  unfold ks_superIn at sup
  rw [hcl] at sup
  refine kxs_getMethod kxs_ValueError e1 (looks_opaque X1 T.opq) (l₀ := .ref C :: bm) (fun A Q E s k q => wpAny_bind ((looks_clsIn X1 hcl) A _ E s k (wpAny_pure q))) rfl X1 sup (I1.type.andThen (looks_subIn X1 T.veC)) (ks_ne X1 I1 hcl) (by rfl) ?_
  have kk2 : ∀ b o, h1.get? b = some o → (h1.push (kxs_mw "ValueError.__init__" x)).get? b = some o := fun b o e => Heap.get?_push_of_some _ e
  have hu2 : (h1.push (kxs_mw "ValueError.__init__" x)).get? h1.objs.size = some (kxs_mw "ValueError.__init__" x) := Heap.get?_push_at rfl rfl
  have k02 : ∀ b o, h0.get? b = some o → (h1.push (kxs_mw "ValueError.__init__" x)).get? b = some o := fun b o e => kk2 _ _ (kk1 _ _ e)
  refine callW1 (i := "ValueError.__init__") (x := x) (spliced_more ?_ (by rfl)) (by rfl) (by rfl)
  refine wpAny_BinOp (wpAny_BinOp (Constant_str ?_))
  refine wpAny_Call_Name_kw (Name_function_global (by rfl) (by rfl) (loadGlobal_builtin (MG0.keeps k02) T.noStr (MB0.keeps k02) ((mbx _ (by decide)).trans (by rfl)) ?_))
  refine PyProof.Rows.callWith_type1 (spliced_more ?_ (by rfl)) (by rfl) (by rfl)
  refine wpAny_Name (wpAny_loadName_local (v := .int n tn) (by rfl) (by rfl) (hns.keeps k02) (by rfl) ?_) (by decide)
  refine spliced_none ?_
  refine PySem.P.str_of_int ?_ ?_
  · by_cases z : n.natAbs = 0
    · rw [z]
      decide
    · exact Nat.lt_of_lt_of_le ((Nat.log2_lt z).mpr (show n.natAbs < 2 ^ 64 by omega)) (by decide)
  refine add_str (fun t' tk => ?_) ?_
  · refine Constant_str ?_
    refine add_str (fun t'' tk2 => ?_) ?_
    · refine spliced_none ⟨hu2, ?_⟩
      have hx2 := kk2 _ _ hx1
      refine initCall rfl hu2 hx2 (k02 _ _ (X0 _ _ hC)) (one_size _) (fun h3 k3 hx3 ht3 => ?_)
      have k03 : ∀ b o, b ≠ x → s.heap.get? b = some o → h3.get? b = some o := fun b o hb e => k3 b o hb (k02 b o (hk0 b o e))
      have lx : x ≠ s.heap.objs.size := Nat.ne_of_lt (Heap.lt_size hx)
      have hns3 : h3.Ns s.heap.objs.size (fun x_1 => List.lookup x_1 ([("self", Value.ref x), ("line", Value.int n tn)] : List (Str × Value)).reverse) := by
        obtain ⟨oL, es, ep, a, b⟩ := hns.keeps k02
        exact ⟨oL, es, ep, k3 _ _ (Ne.symm lx) a, b⟩
      have X3 : K.In h3 := fun a o e => k03 a o (fun z => by rw [z, hnx] at e; cases e) (X a o e)
      have z3 : s.heap.objs.size < h3.objs.size := hns3.lt
      refine _root_.PySem.wpAt_of_wpAny ?_
      show wpAny _ _ (execs _ (ksEnv "InvalidPaper.__init__" (L2.defScope s_Ip) s.heap.objs.size fI (.ref cda) cc)) _ _ _
      refine wpAny_execs_cons (plainObj_wpAny_Assign_Attribute ?_)
      refine wpAny_Name (wpAny_loadName_local (v := .int n tn) (by rfl) (by rfl) hns3 (by rfl) ?_) (by decide)
      refine wpAny_Name (wpAny_loadName_local (v := .ref x) (by rfl) (by rfl) hns3 (by rfl) ?_) (by decide)
      refine set_plain X3 (od := none) ⟨hx3, rfl, rfl, trivial⟩ T.sa ?_
      refine exc_osa X3 hx3 hcl (show refsVE (.ref C :: bm) = true from hbm) rfl T.noN (fun h4 tk4 dx k4 dn dne hx4 hn4 => ?_)
      show wpAny _ _ (execs _ _) _ _ _
      refine wpAny_execs_nil ?_
      exact hq h4 tk4 dx _ ⟨fun b o hb e => k4 b o hb (k03 b o hb e), hx4, Nat.le_of_lt (Nat.lt_of_lt_of_le z3 dn), dne, hn4⟩
    · have := num_len n0 n1
      rw [TL.len_tl, TL.tl_append, List.length_append, ← TL.len_tl, ← TL.len_tl, sizeLine_eq, show (PySem.Str.ofString "line ").length = 5 by decide +kernel, show (PySem.Str.ofString " of the paper is wrong").length = 22 by decide +kernel]
      omega
  · have := num_len n0 n1
    rw [sizeLine_eq, show (PySem.Str.ofString "line ").length = 5 by decide +kernel]
    omega
theorem ip_made (T : IpTxt prog K mg C fI) {n : Int} {tn : Tok} (X : K.In s.heap) (hlim : s.heap.NoLimit) (MG : s.heap.Ns mainGlobals mg) (MB : ∃ mb, s.heap.Ns builtinsNs mb ∧ ∀ x : Str, x ≠ "__name__" → mb x = bootBuiltins x) (hroom : A.depth + 1 < recursionLimit) (n0 : 0 ≤ n) (n1 : n < 10 ^ 18)
    (hq : ∀ h' tk e d, OwnMade s.heap h' e C d (.int n tn) → R (.ok (.ret (.ref e))) { s with heap := h', toks := tk }) :
    codeAny (model prog w) A (.call (.ref C) ⟨[.int n tn], []⟩) R s := by
  obtain ⟨nm, q, N, bs, bm, sn, sub, ab, col, dd, k0, k1, k2, k3, k5, hC, hbm⟩ := T.cls
  obtain ⟨mb, MB, mbx⟩ := MB
  obtain ⟨hp, g, dr, tk, os⟩ := s
  have k : ∀ b o, hp.get? b = some o → ((hp.push (kdv_tup [.int n tn])).push (excO C hp.objs.size)).get? b = some o := fun b o e => Heap.get?_push_of_some _ (Heap.get?_push_of_some _ e)
  have hget : ((hp.push (kdv_tup [.int n tn])).push (excO C hp.objs.size)).get? (hp.objs.size + 1) = some (excO C hp.objs.size) := by heap_get
  have hnx : K.lookup (hp.objs.size + 1) = none := by
    cases e : K.lookup (hp.objs.size + 1) with
    | none => rfl
    | some o =>
      have z : hp.get? (hp.objs.size + 1) = some o := X _ _ e
      exact absurd (Nat.lt_of_succ_lt (Heap.lt_size z)) (Nat.lt_irrefl _)
  refine call_own F.excBase_ValueError (fun X => refsVE_contains X bm hbm) (X _ _ hC) (looks_findIn X T.iC) (fun self => bind_fn X self T.tC) (one_size _) ?_
  refine ip_init (s := ⟨(hp.push (kdv_tup [.int n tn])).push (excO C hp.objs.size), g, dr, tk, os⟩) T (X.keeps k) (hlim.keeps k) (MG.keeps k) ⟨mb, MB.keeps k, mbx⟩ hget hnx ?_ n0 n1 fun h' tk' dx t1 ⟨k', hx, dn, dne, hns⟩ => ?_
  · show A.depth + 1 < recursionLimit
    exact hroom
  · have old : ∀ b o, hp.get? b = some o → h'.get? b = some o := fun b o e => k' b o (Nat.ne_of_lt (Nat.lt_succ_of_lt (Heap.lt_size e))) (k b o e)
    have z : hp.objs.size + 1 + 1 ≤ dx := by
      first
        | (simpa only [Heap.size_push] using dn)
        | exact dn
        | (have q := dn; rw [Heap.size_push, Heap.size_push] at q; exact q)
    exact ⟨rfl, hq h' tk' (hp.objs.size + 1) dx ⟨old, Nat.le_succ _, ⟨_, _, hx, rfl, rfl, rfl, rfl⟩, Nat.le_trans (Nat.le_trans (Nat.le_succ _) (Nat.le_succ _)) z, dne, hns⟩⟩
end
end KX
namespace KX
open PySem PySem.Spec PyProof.Rows L2
theorem relO_line {v : V} {v' : Value} (r : RelV v v') (f : Str) : RelO (List.lookup f [(("line" : Str), v)]) (if f = "line" then some v' else none) := by
  by_cases hw : f = "line"
  · subst hw
    rw [if_pos rfl]
    have q : List.lookup ("line" : Str) [(("line" : Str), v)] = some v := by simp [List.lookup]
    rw [q]
    exact r
  · rw [if_neg hw]
    have qw : (f == ("line" : Str)) = false := by simpa using hw
    have q2 : List.lookup f [(("line" : Str), v)] = none := by simp [List.lookup, qw]
    rw [q2]
    trivial
section
variable {X : Cx} {C fI : Addr}
/-- InvalidPaper(n) -/
def tMkIp (C : Addr) (ta : TA) : L2.St → Hp → XK → Prop := fun σ H Q => ta σ H fun vs H1 => ∃ n : Int, vs = [.int n] ∧ 0 ≤ n ∧ n < 10 ^ 18 ∧ ∀ d, H1 d = none → Q (.ref C) (some d) (upd H1 d (.xd [(("line" : Str), .int n)]))
theorem pmk_ip {a : Expr} {ta : TA} {p pos : Pos} {k : Nat} (T : IpTxt X.prog X.K X.mg C fI) (hr : Room k X.A) (ha : PA X [a] ta) (hg : Gl X "InvalidPaper" := by rfl)
    (he : starEach (a :: []) X.env = (false, eval a X.env) :: starEach [] X.env := by rfl) (hpl : (backTo pos (starEach [] X.env)).any (·.1) = false := by rfl) :
    PMk X (.Call (.Name "InvalidPaper" p) [a] [] pos) (tMkIp C ta) := by
  intro pins s σ H Q I h
  refine wpAny_Call_Name_kw (ld_glob I hg T.gC ?_)
  refine PySem.W.callWith_K (h₀ := X.base) I.ok.mod.kin T.kC (thn (ha.run pos pins s σ H _ I h) fun us s1 hh => ?_) he hpl
  obtain ⟨vs, H1, I1, r1, n, ev, n0, n1, q1⟩ := hh
  subst ev
  refine ⟨I1.kIn, ?_⟩
  obtain ⟨u, rfl, tn, rfl⟩ := vals1 r1
  show wpAny _ _ (call (.ref C) [.int n tn]) _ _ _
  have hlim := I1.nolimit
  have MG : s1.heap.Ns mainGlobals X.mg := I1.mod.glob.keeps I1.bk
  have MB : ∃ mb, s1.heap.Ns builtinsNs mb ∧ ∀ x : Str, x ≠ "__name__" → mb x = bootBuiltins x := by
    obtain ⟨mb, a, b⟩ := I1.mod.blt
    exact ⟨mb, a.keeps I1.bk, b⟩
  obtain ⟨hp, g, dr, tk, os⟩ := s1
  refine wpAny_call (ip_made T I1.kIn hlim MG MB (by have := hr.dp; omega) n0 n1 fun h' tk' e d M => ?_)
  show MkP X pins σ Q (.ref e) ⟨h', g, dr, tk', os⟩
  obtain ⟨oe, fv, hoe, hc, hd, hdat, h1⟩ := M.obj
  have hns := M.ns
  obtain ⟨G', g1, g2⟩ := restrict h' fun b => decide (b ≠ e)
  have gk : ∀ b, b ≠ e → G'.get? b = h'.get? b := fun b hb => g1 b (decide_eq_true hb)
  have ge : G'.get? e = none := g2 e (by simp)
  have old : ∀ b o, hp.get? b = some o → G'.get? b = some o := fun b o q => (gk b (Nat.ne_of_lt (Nat.lt_of_lt_of_le (Heap.lt_size q) M.new))).trans (M.keep b o q)
  have ob : ObjOk X.prog X.w (upd H1 d (.xd [(("line" : Str), .int n)])) G' d (.xd [(("line" : Str), .int n)]) :=
    ⟨_, hns.at (fun o q => (gk d M.dne).trans q), fun f => relO_line (v := .int n) ⟨tn, rfl⟩ f⟩
  have J : Inv X pins σ (upd H1 d (.xd [(("line" : Str), .int n)])) ⟨G', g, dr, tk', os⟩ := I1.laid (t' := tk') old M.dbig ob
  refine ⟨e, oe, fv, ⟨G', g, dr, tk', os⟩, _, .ref C, some d, rfl, J, fun b o q => ?_, ge, hoe, ⟨hc, hd⟩, hdat, h1, ?_, rfl, I1.bare, raises_own T.exC T.tyC, q1 d (I1.hok.fresh M.dbig)⟩
  · by_cases hb : b = e
    · have q' : G'.get? b = some o := q
      rw [hb, ge] at q'; cases q'
    · exact (gk b hb).symm.trans q
  · rw [upd_ne (Ne.symm M.dne)]
    exact I1.hok.fresh M.new
/-- raise InvalidPaper(n) -/
def tRaiseIp (C : Addr) (W : WX) (ta : TA) : TS := fun _ σ H => tMkIp C ta σ H fun cls d H' => W cls d σ H'
theorem ps_raiseIp {a : Expr} {ta : TA} {W : WX} {p pos pos2 : Pos} {k : Nat} (hc : X.calm = true) (T : IpTxt X.prog X.K X.mg C fI) (hr : Room k X.A) (tk : Takes X W) (ha : PA X [a] ta) (hg : Gl X "InvalidPaper" := by rfl)
    (he : starEach (a :: []) X.env = (false, eval a X.env) :: starEach [] X.env := by rfl) (hpl : (backTo pos (starEach [] X.env)).any (·.1) = false := by rfl) :
    PS X (.Raise (some (.Call (.Name "InvalidPaper" p) [a] [] pos)) none pos2) (tRaiseIp C W ta) := ps_raise hc tk (pmk_ip T hr ha hg he hpl)
end
end KX
namespace KW
open PySem PySem.Spec PyProof.Rows L2 KG
section
variable {P : Program} {w : World} {K : PySem.W.Frag} {mg : Str → Option Value} {base : Heap}
/-! ### three points -/
def spThree : Sp := fun vs H Q _ => ∃ a b c p q r e, vs = [a, b, c, .int e] ∧ IsPt H a p ∧ IsPt H b q ∧ IsPt H c r ∧ SmP p ∧ SmP q ∧ SmP r ∧ Sm e ∧ Q (.bl (three p q r e)) H
theorem sm64 {x : Int} (h : Sm x) : -(2 ^ 64) < x ∧ x < 2 ^ 64 := by
  unfold Sm at h
  omega
abbrev s_three_fit : Stmt := topS 6
abbrev N_three_fit : List Str := ["one", "two", "three", "error", "width", "middle"]
theorem sc_three_fit : FnScope N_three_fit ["one", "two", "three", "error"] (defScope s_three_fit) := ⟨rfl, rfl, rfl, by decide +kernel, rfl, by decide +kernel, by decide +kernel⟩
theorem bd_three_fit : BindsN "three_fit" "three_fit" s_three_fit ["one", "two", "three", "error"] := fun _ _ _ _ _ _ us hl => match us, hl with | [_, _, _, _], _ => rfl
theorem ok_three_fit (T : Txt mg) (D : DefAt K mg "three_fit" s_three_fit) : Cal P w K mg base 1 "three_fit" spThree [] := by
  refine cal_of D sc_three_fit bd_three_fit (fun vs H Q E h => ?_) (fun f cdv A outer s H vs Q E hr h => ?_)
  · obtain ⟨a, b, c, p, q, r, e, rfl, _⟩ := h
    rfl
  · obtain ⟨a, b, c, p, q, r, e, rfl, ⟨ta, rfl, ha⟩, ⟨tb, rfl, hb⟩, ⟨tc, rfl, hc⟩, sp, sq, sr, se, k⟩ := h
    refine ⟨_, (pss_cons (ps_set (i := 4) sc_three_fit.nd rfl (.inl rfl) (pe_op op_sub (pe_ix ix_tup (pv 2) pe_int (fun _ _ => rfl)) (pe_ix ix_tup (pv 0) pe_int (fun _ _ => rfl))))
      (pss_cons (ps_set (i := 5) sc_three_fit.nd rfl (.inl rfl) (pe_op op_sub (pe_op op_sub (pe_op op_mul (pe_ix ix_tup (pv 1) pe_int (fun _ _ => rfl)) (pv 4)) (pe_op op_mul (pe_ix ix_tup (pv 0) pe_int (fun _ _ => rfl)) (pe_op op_sub (pe_ix ix_tup (pv 2) pe_int (fun _ _ => rfl)) (pe_ix ix_tup (pv 1) pe_int (fun _ _ => rfl))))) (pe_op op_mul (pe_ix ix_tup (pv 2) pe_int (fun _ _ => rfl)) (pe_op op_sub (pe_ix ix_tup (pv 1) pe_int (fun _ _ => rfl)) (pe_ix ix_tup (pv 0) pe_int (fun _ _ => rfl))))))
      (pss_one (ps_ret (pe_cmpR op_le (pe_callB call_abs (by rfl) T.abs (by decide +kernel) (pa_cons (pv 5) pa_nil)) (pe_op op_mul (pe_op op_mul pe_int (pv 3)) (pv 4)) (nomark _)))))), ?_⟩
    refine ⟨_, rfl, _, _, _, _, rfl, rfl, SqT.of hc, rfl, _, rfl, _, _, _, _, rfl, rfl, SqT.of ha, rfl, _, _, rfl, rfl, ?_⟩
    refine ⟨_, rfl, _, _, _, _, rfl, rfl, SqT.of hb, rfl, _, rfl, _, _, rfl, rfl, .inl (sm64 sq.2), ?_⟩
    refine ⟨_, rfl, _, _, _, _, rfl, rfl, SqT.of ha, rfl, _, rfl, _, _, _, _, rfl, rfl, SqT.of hc, rfl, _, rfl, _, _, _, _, rfl, rfl, SqT.of hb, rfl, _, _, rfl, rfl, _, _, rfl, rfl, .inl (sm64 sp.2), _, _, rfl, rfl, ?_⟩
    refine ⟨_, rfl, _, _, _, _, rfl, rfl, SqT.of hc, rfl, _, rfl, _, _, _, _, rfl, rfl, SqT.of hb, rfl, _, rfl, _, _, _, _, rfl, rfl, SqT.of ha, rfl, _, _, rfl, rfl, _, _, rfl, rfl, .inl (sm64 sr.2), _, _, rfl, rfl, ?_⟩
    refine ⟨_, rfl, _, rfl, _, rfl, _, _, rfl, rfl, .inr (sm64 se), _, rfl, _, _, rfl, rfl, .inl (by unfold Sm at se; omega), _, _, rfl, rfl, ?_⟩
    exact k
abbrev s_l_three : Stmt := topS 40
abbrev N_l_three : List Str := ["_law_one", "_law_two", "_law_three_here", "_law_error_here", "_law_height"]
theorem sc_l_three : FnScope N_l_three ["_law_one", "_law_two", "_law_three_here", "_law_error_here"] (defScope s_l_three) := ⟨rfl, rfl, rfl, by decide +kernel, rfl, by decide +kernel, by decide +kernel⟩
theorem bd_l_three : BindsN "_law_three" "_law_three" s_l_three ["_law_one", "_law_two", "_law_three_here", "_law_error_here"] := fun _ _ _ _ _ _ us hl => match us, hl with | [_, _, _, _], _ => rfl
theorem ok_l_three (T : Txt mg) (D : DefAt K mg "_law_three" s_l_three) : Cal P w K mg base 1 "_law_three" spThree [] := by
  refine cal_of D sc_l_three bd_l_three (fun vs H Q E h => ?_) (fun f cdv A outer s H vs Q E hr h => ?_)
  · obtain ⟨a, b, c, p, q, r, e, rfl, _⟩ := h
    rfl
  · obtain ⟨a, b, c, p, q, r, e, rfl, ⟨ta, rfl, ha⟩, ⟨tb, rfl, hb⟩, ⟨tc, rfl, hc⟩, sp, sq, sr, se, k⟩ := h
    refine ⟨_, (pss_cons (ps_set (i := 4) sc_l_three.nd rfl (.inl rfl) (pe_op op_sub (pe_op op_sub (pe_op op_mul (pe_ix ix_tup (pv 1) pe_int (fun _ _ => rfl)) (pe_op op_sub (pe_ix ix_tup (pv 2) pe_int (fun _ _ => rfl)) (pe_ix ix_tup (pv 0) pe_int (fun _ _ => rfl)))) (pe_op op_mul (pe_ix ix_tup (pv 0) pe_int (fun _ _ => rfl)) (pe_op op_sub (pe_ix ix_tup (pv 2) pe_int (fun _ _ => rfl)) (pe_ix ix_tup (pv 1) pe_int (fun _ _ => rfl))))) (pe_op op_mul (pe_ix ix_tup (pv 2) pe_int (fun _ _ => rfl)) (pe_op op_sub (pe_ix ix_tup (pv 1) pe_int (fun _ _ => rfl)) (pe_ix ix_tup (pv 0) pe_int (fun _ _ => rfl))))))
      (pss_one (ps_ret (pe_cmpR op_le (pe_callB call_abs (by rfl) T.abs (by decide +kernel) (pa_cons (pv 4) pa_nil)) (pe_op op_mul (pe_op op_mul pe_int (pv 3)) (pe_op op_sub (pe_ix ix_tup (pv 2) pe_int (fun _ _ => rfl)) (pe_ix ix_tup (pv 0) pe_int (fun _ _ => rfl)))) (nomark _))))), ?_⟩
    refine ⟨_, rfl, _, _, _, _, rfl, rfl, SqT.of (hb), rfl, _, rfl, _, _, _, _, rfl, rfl, SqT.of (hc), rfl, _, rfl, _, _, _, _, rfl, rfl, SqT.of (ha), rfl, _, _, rfl, rfl, _, _, rfl, rfl, .inl (sm64 sq.2), ?_⟩
    refine ⟨_, rfl, _, _, _, _, rfl, rfl, SqT.of (ha), rfl, _, rfl, _, _, _, _, rfl, rfl, SqT.of (hc), rfl, _, rfl, _, _, _, _, rfl, rfl, SqT.of (hb), rfl, _, _, rfl, rfl, _, _, rfl, rfl, .inl (sm64 sp.2), _, _, rfl, rfl, ?_⟩
    refine ⟨_, rfl, _, _, _, _, rfl, rfl, SqT.of (hc), rfl, _, rfl, _, _, _, _, rfl, rfl, SqT.of (hb), rfl, _, rfl, _, _, _, _, rfl, rfl, SqT.of (ha), rfl, _, _, rfl, rfl, _, _, rfl, rfl, .inl (sm64 sr.2), _, _, rfl, rfl, ?_⟩
    refine ⟨_, rfl, _, rfl, _, rfl, _, _, rfl, rfl, .inr (sm64 se), _, rfl, _, _, _, _, rfl, rfl, SqT.of (hc), rfl, _, rfl, _, _, _, _, rfl, rfl, SqT.of (ha), rfl, _, _, rfl, rfl, _, _, rfl, rfl, .inl (by unfold Sm at se; omega), _, _, rfl, rfl, ?_⟩
    exact k
/-! ### lines -/
def spNear : Sp := fun vs H Q _ => ∃ l a p q d pt e, vs = [l, a, .int e] ∧ IsTri H l (p, q, d) ∧ IsPt H a pt ∧ SmP pt ∧ Sm e ∧ Q (.bl (near p q d pt e)) H
abbrev s_is_near : Stmt := topS 3
abbrev N_is_near : List Str := ["line", "point", "error", "p", "q", "d"]
theorem sc_is_near : FnScope N_is_near ["line", "point", "error"] (defScope s_is_near) := ⟨rfl, rfl, rfl, by decide +kernel, rfl, by decide +kernel, by decide +kernel⟩
theorem bd_is_near : BindsN "is_near" "is_near" s_is_near ["line", "point", "error"] := fun _ _ _ _ _ _ us hl => match us, hl with | [_, _, _], _ => rfl
theorem ok_is_near (T : Txt mg) (D : DefAt K mg "is_near" s_is_near) : Cal P w K mg base 1 "is_near" spNear [] := by
  refine cal_of D sc_is_near bd_is_near (fun vs H Q E h => ?_) (fun f cdv A outer s H vs Q E hr h => ?_)
  · obtain ⟨l, a, p, q, d, pt, e, rfl, _⟩ := h
    rfl
  · obtain ⟨l, a, p, q, d, pt, e, rfl, ⟨tl, rfl, hl⟩, ⟨ta, rfl, ha⟩, sp, se, k⟩ := h
    refine ⟨_, (pss_cons (ps_asg (pv 0) (pg_tup (by rfl) (pgs_cons (pg_name (i := 3) sc_is_near.nd rfl (.inl rfl)) (pgs_cons (pg_name (i := 4) sc_is_near.nd rfl (.inl rfl)) (pgs_cons (pg_name (i := 5) sc_is_near.nd rfl (.inl rfl)) pgs_nil)))))
      (pss_one (ps_ret (pe_cmpR op_le (pe_callB call_abs (by rfl) T.abs (by decide +kernel) (pa_cons (pe_op op_sub (pe_op op_add (pe_op op_mul (pv 3) (pe_ix ix_tup (pv 1) pe_int (fun _ _ => rfl))) (pv 4)) (pe_op op_mul (pe_ix ix_tup (pv 1) pe_int (fun _ _ => rfl)) (pv 5))) pa_nil)) (pe_op op_mul (pv 2) (pv 5)) (nomark _))))), ?_⟩
    refine ⟨_, rfl, tl, _, rfl, SqT.of hl, rfl, _, _, rfl, _, _, rfl, _, _, rfl, rfl, ?_⟩
    refine ⟨_, rfl, _, rfl, _, _, _, _, rfl, rfl, SqT.of (ha), rfl, _, _, rfl, rfl, .inr (sm64 sp.1), _, rfl, _, _, rfl, rfl, _, rfl, _, _, _, _, rfl, rfl, SqT.of (ha), rfl, _, rfl, _, _, rfl, rfl, .inl (sm64 sp.2), _, _, rfl, rfl, _, rfl, ?_⟩
    refine ⟨_, rfl, _, rfl, _, _, rfl, rfl, .inl (sm64 se), _, _, rfl, rfl, ?_⟩
    exact k
def spLineFits : Sp := fun vs H Q _ => ∃ l a p q d pts e, vs = [l, .ref a, .int e] ∧ IsTri H l (p, q, d) ∧ LsOf IsPt H a pts ∧ (∀ pt ∈ pts, SmP pt) ∧ Sm e ∧ Q (.bl (pts.all fun pt => near p q d pt e)) H
theorem take_get {α : Type} {l : List α} {i : Nat} {x : α} (h : l[i]? = some x) : l.take (i + 1) = l.take i ++ [x] := by
  rw [List.take_add_one, h]
  rfl
abbrev s_line_fits : Stmt := topS 4
abbrev N_line_fits : List Str := ["line", "points", "error", "point"]
theorem sc_line_fits : FnScope N_line_fits ["line", "points", "error"] (defScope s_line_fits) := ⟨rfl, rfl, rfl, by decide +kernel, rfl, by decide +kernel, by decide +kernel⟩
theorem bd_line_fits : BindsN "line_fits" "line_fits" s_line_fits ["line", "points", "error"] := fun _ _ _ _ _ _ us hl => match us, hl with | [_, _, _], _ => rfl
theorem ok_line_fits (T : Txt mg) (D : DefAt K mg "line_fits" s_line_fits) (c_is_near : Cal P w K mg base 1 "is_near" spNear []) : Cal P w K mg base 2 "line_fits" spLineFits [] := by
  refine cal_of D sc_line_fits bd_line_fits (fun vs H Q E h => ?_) (fun f cdv A outer s H vs Q E hr h => ?_)
  · obtain ⟨l, a, p, q, d, pts, e, rfl, _⟩ := h
    rfl
  · obtain ⟨l, a, p, q, d, pts, e, rfl, hl, ⟨vs, ha, hvs⟩, sp, se, k⟩ := h
    refine ⟨_, (pss_cons (ps_for PassesOwn.never rfl (pi_list (pv 1)) (pg_name (i := 3) sc_line_fits.nd rfl (.inl rfl)) (pss_one (ps_if (pt_not (pt_val (C8.pe_c c_is_near hr (by decide) (by rfl) (pa_cons (pv 0) (pa_cons (pv 3) (pa_cons (pv 2) pa_nil)))))) (pss_one (ps_ret pe_bl)) pss_nil)))
      (pss_one (ps_ret pe_bl))), ?_⟩
    refine ⟨_, rfl, a, rfl, ⟨_, SqL.of ha⟩, for_list (K := K) (a := a) (xs := vs) (fun i σ H' => H' = H ∧ (∃ y, σ = [some l, some (.ref a), some (.int e), y]) ∧ (pts.take i).all (fun pt => near p q d pt e) = true)
      ⟨rfl, ⟨none, rfl⟩, rfl⟩ (fun i σ H' _ ⟨e1, _, _⟩ => e1 ▸ SqL.of ha) ?_ ?_⟩
    · rintro i x σ H' hx ⟨rfl, ⟨y, rfl⟩, hall⟩
      obtain ⟨pt, hp, hx2⟩ := paired_get hvs hx
      refine ⟨_, rfl, _, rfl, _, rfl, _, _, _, _, _, pt, _, rfl, hl, hx2, sp pt (List.mem_of_getElem? hp), se, _, rfl, ite2 (fun hc => ?_) (fun hc => ?_)⟩
      · have e0 : (pts.all fun pt => near p q d pt e) = false := by
          rw [List.all_eq_false]
          exact ⟨pt, List.mem_of_getElem? hp, by simpa using hc⟩
        rw [e0] at k
        exact k
      · refine ⟨rfl, ⟨_, rfl⟩, ?_⟩
        rw [take_get hp, List.all_append, hall]
        simpa using hc
    · rintro σ H' ⟨rfl, ⟨y, rfl⟩, hall⟩
      rw [hvs.length, List.take_length] at hall
      rw [hall] at k
      exact k
/-! ### all triples -/
def spFits : Sp := fun vs H Q _ => ∃ a pts e, vs = [.ref a, .int e] ∧ LsOf IsPt H a pts ∧ (∀ pt ∈ pts, SmP pt) ∧ Sm e ∧ pts.length ≤ 1000 ∧ ∀ b, (b = true ↔ TriIx pts e) → Q (.bl b) H
theorem getP {H : Hp} {vs : List V} {pts : List P2} (h : Paired (IsPt H) vs pts) {i : Nat} (hi : i < pts.length) : ∃ v p, vs[i]? = some v ∧ pts[i]? = some p ∧ IsPt H v p := by
  obtain ⟨v, h1, h2⟩ := paired_get' h (List.getElem?_eq_getElem hi)
  exact ⟨v, _, h1, List.getElem?_eq_getElem hi, h2⟩
abbrev s_l_fits : Stmt := topS 41
abbrev N_l_fits : List Str := ["_law_points_here", "_law_error_here", "_law_k", "_law_j", "_law_i"]
theorem sc_l_fits : FnScope N_l_fits ["_law_points_here", "_law_error_here"] (defScope s_l_fits) := ⟨rfl, rfl, rfl, by decide +kernel, rfl, by decide +kernel, by decide +kernel⟩
theorem bd_l_fits : BindsN "_law_fits" "_law_fits" s_l_fits ["_law_points_here", "_law_error_here"] := fun _ _ _ _ _ _ us hl => match us, hl with | [_, _], _ => rfl
theorem ok_l_fits (T : Txt mg) (D : DefAt K mg "_law_fits" s_l_fits) (c_l_three : Cal P w K mg base 1 "_law_three" spThree []) : Cal P w K mg base 2 "_law_fits" spFits [] := by
  refine cal_of D sc_l_fits bd_l_fits (fun vs H Q E h => ?_) (fun f cdv A outer s H vs Q E hr h => ?_)
  · obtain ⟨a, pts, e, rfl, _⟩ := h
    rfl
  · obtain ⟨a, pts, e, rfl, ⟨vs, ha, hvs⟩, sp, se, hlen, k⟩ := h
    have hL : vs.length = pts.length := hvs.length
    refine ⟨_, (pss_cons (ps_for PassesOwn.never rfl (pi_range2 rfl T.range (pa_cons pe_int (pa_cons (pe_callB call_len_seq (by rfl) T.len (by decide +kernel) (pa_cons (pv 0) pa_nil)) pa_nil))) (pg_name (i := 2) sc_l_fits.nd rfl (.inl rfl)) (pss_one (ps_for PassesOwn.never rfl (pi_range2 rfl T.range (pa_cons pe_int (pa_cons (pv 2) pa_nil))) (pg_name (i := 3) sc_l_fits.nd rfl (.inl rfl)) (pss_one (ps_for PassesOwn.never rfl (pi_range1 rfl T.range (pa_cons (pv 3) pa_nil)) (pg_name (i := 4) sc_l_fits.nd rfl (.inl rfl)) (pss_one (ps_if (pt_not (pt_val (C8.pe_c c_l_three hr (by decide) (by rfl) (pa_cons (pe_ix ix_list (pv 0) (pv 4) (fun _ _ => rfl)) (pa_cons (pe_ix ix_list (pv 0) (pv 3) (fun _ _ => rfl)) (pa_cons (pe_ix ix_list (pv 0) (pv 2) (fun _ _ => rfl)) (pa_cons (pv 1) pa_nil))))))) (pss_one (ps_ret pe_bl)) pss_nil)))))))
      (pss_one (ps_ret pe_bl))), ?_⟩
    refine ⟨_, rfl, _, _, rfl, .inl (SqL.of ha), _, _, rfl, (by rw [hL]; omega), for_range (lo := 2) (n := ((vs.length : Int) - 2).toNat) (fun n σ H' => H' = H ∧ (∃ y z u, σ = [some (.ref a), some (.int e), y, z, u]) ∧
      ∀ (i j k : Nat) (p q r : P2), i < j → j < k → k < n + 2 → pts[i]? = some p → pts[j]? = some q → pts[k]? = some r → three p q r e = true) ⟨rfl, ⟨none, none, none, rfl⟩, fun i j k p q r h1 h2 h3 => by omega⟩ ?_ ?_⟩
    · rintro n σ H' hn ⟨rfl, ⟨y, z, u, rfl⟩, h1⟩
      refine ⟨_, rfl, _, _, rfl, (by omega), for_range (lo := 1) (n := ((2 + (n : Int)) - 1).toNat) (fun m σ H2 => H2 = H' ∧ (∃ z u, σ = [some (.ref a), some (.int e), some (.int (2 + (n : Int))), z, u]) ∧
        ∀ (i j : Nat) (p q r : P2), i < j → j < m + 1 → pts[i]? = some p → pts[j]? = some q → pts[n + 2]? = some r → three p q r e = true) ⟨rfl, ⟨_, _, rfl⟩, fun i j p q r h1 h2 => by omega⟩ ?_ ?_⟩
      · rintro m σ H2 hm ⟨rfl, ⟨z, u, rfl⟩, h2⟩
        refine ⟨_, rfl, _, rfl, (by omega), (by omega), for_range (lo := 0) (n := ((1 : Int) + (m : Int)).toNat) (fun l σ H3 => H3 = H2 ∧ (∃ u, σ = [some (.ref a), some (.int e), some (.int (2 + (n : Int))), some (.int (1 + (m : Int))), u]) ∧
          ∀ (i : Nat) (p q r : P2), i < l → pts[i]? = some p → pts[m + 1]? = some q → pts[n + 2]? = some r → three p q r e = true) ⟨rfl, ⟨_, rfl⟩, fun i p q r h1 => by omega⟩ ?_ ?_⟩
        · rintro l σ H3 hl ⟨rfl, ⟨u, rfl⟩, h3⟩
          obtain ⟨v1, p, e1, f1, g1⟩ := getP (i := l) hvs (by omega)
          obtain ⟨v2, q, e2, f2, g2⟩ := getP (i := m + 1) hvs (by omega)
          obtain ⟨v3, r, e3, f3, g3⟩ := getP (i := n + 2) hvs (by omega)
          refine ⟨_, rfl, _, rfl, _, _, _, _, rfl, rfl, SqL.of ha, at_of (by omega) e1, _, rfl, _, rfl, _, _, _, _, rfl, rfl, SqL.of ha, at_of (by omega) e2, _, rfl, _, rfl, _, _, _, _, rfl, rfl, SqL.of ha, at_of (by omega) e3, _, rfl, ?_⟩
          refine ⟨_, _, _, p, q, r, _, rfl, g1, g2, g3, sp p (List.mem_of_getElem? f1), sp q (List.mem_of_getElem? f2), sp r (List.mem_of_getElem? f3), se, _, rfl, ite2 (fun hc => ?_) (fun hc => ?_)⟩
          · refine k false ⟨fun z => (by cases z), fun z => ?_⟩
            have := z l (m + 1) (n + 2) p q r (by omega) (by omega) f1 f2 f3
            rw [this] at hc
            cases hc
          · refine ⟨rfl, ⟨_, rfl⟩, fun i p' q' r' hi a1 a2 a3 => ?_⟩
            by_cases he : i = l
            · subst he
              rw [f1] at a1; rw [f2] at a2; rw [f3] at a3
              cases a1; cases a2; cases a3
              simpa using hc
            · exact h3 i p' q' r' (by omega) a1 a2 a3
        · rintro σ H3 ⟨rfl, ⟨u, rfl⟩, h3⟩
          refine ⟨rfl, ⟨_, _, rfl⟩, fun i j p q r hi hj a1 a2 a3 => ?_⟩
          by_cases he : j = m + 1
          · subst he
            exact h3 i p q r (by omega) a1 a2 a3
          · exact h2 i j p q r hi (by omega) a1 a2 a3
      · rintro σ H2 ⟨rfl, ⟨z, u, rfl⟩, h2⟩
        refine ⟨rfl, ⟨_, _, _, rfl⟩, fun i j k p q r hi hj hk a1 a2 a3 => ?_⟩
        by_cases he : k = n + 2
        · subst he
          exact h2 i j p q r hi (by omega) a1 a2 a3
        · exact h1 i j k p q r hi hj (by omega) a1 a2 a3
    · rintro σ H' ⟨rfl, ⟨y, z, u, rfl⟩, h1⟩
      refine k true ⟨fun _ i j k p q r hi hj a1 a2 a3 => h1 i j k p q r hi hj ?_ a1 a2 a3, fun _ => rfl⟩
      have := (List.getElem?_eq_some_iff.mp a3).1
      omega
end
end KW
namespace KW
open PySem PySem.Spec PyProof.Rows L2 KG
section
variable {P : Program} {w : World} {K : PySem.W.Frag} {mg : Str → Option Value} {base : Heap}
/-! ### numbers -/
theorem dvd_step {f s d : Int} : (d ∣ s ∧ d ∣ f % s) ↔ (d ∣ f ∧ d ∣ s) := by
  rw [Int.emod_def]
  constructor
  · rintro ⟨h1, h2⟩
    refine ⟨?_, h1⟩
    have := Int.dvd_add h2 (Int.dvd_mul_of_dvd_left (c := f / s) h1)
    rwa [show f - s * (f / s) + s * (f / s) = f by omega] at this
  · rintro ⟨h1, h2⟩
    exact ⟨h2, Int.dvd_sub h1 (Int.dvd_mul_of_dvd_left (c := f / s) h2)⟩
def spGcd : Sp := fun vs H Q _ => ∃ a b : Int, vs = [.int a, .int b] ∧ 0 < b ∧ ∀ g, 0 < g → g ∣ a → g ∣ b → Q (.int g) H
abbrev s_common_divisor : Stmt := topS 2
abbrev N_common_divisor : List Str := ["one", "other", "first", "second"]
theorem sc_common_divisor : FnScope N_common_divisor ["one", "other"] (defScope s_common_divisor) := ⟨rfl, rfl, rfl, by decide +kernel, rfl, by decide +kernel, by decide +kernel⟩
theorem bd_common_divisor : BindsN "common_divisor" "common_divisor" s_common_divisor ["one", "other"] := fun _ _ _ _ _ _ us hl => match us, hl with | [_, _], _ => rfl
theorem ok_common_divisor (T : Txt mg) (D : DefAt K mg "common_divisor" s_common_divisor) : Cal P w K mg base 1 "common_divisor" spGcd [] := by
  refine cal_of D sc_common_divisor bd_common_divisor (fun vs H Q E h => ?_) (fun f cdv A outer s H vs Q E hr h => ?_)
  · obtain ⟨a, b, rfl, _⟩ := h
    rfl
  · obtain ⟨a, b, rfl, hb, k⟩ := h
    refine ⟨_, (pss_cons (ps_set (i := 2) sc_common_divisor.nd rfl (.inl rfl) (pe_callB call_abs (by rfl) T.abs (by decide +kernel) (pa_cons (pv 0) pa_nil)))
      (pss_cons (ps_set (i := 3) sc_common_divisor.nd rfl (.inl rfl) (pe_callB call_abs (by rfl) T.abs (by decide +kernel) (pa_cons (pv 1) pa_nil)))
      (pss_cons (ps_while PassesOwn.never (pt_truth (pv 3) (by intro _; rfl)) (pss_one (ps_par (i := 2) (j := 3) (by rfl) sc_common_divisor.nd rfl rfl (by decide) rfl rfl (pa_cons (pv 3) (pa_cons (pe_op op_mod (pv 2) (pv 3)) pa_nil)) (by rfl))))
      (pss_one (ps_ret (pv 2)))))), ?_⟩
    refine ⟨_, rfl, _, rfl, _, rfl, _, rfl, ?_⟩
    dsimp only [gName, tSeq]
    refine while_by (fun σ H' => H' = H ∧ ∃ f s : Int, σ = [some (.int a), some (.int b), some (.int f), some (.int s)] ∧ 0 ≤ f ∧ 0 ≤ s ∧ ∀ d, (d ∣ f ∧ d ∣ s) ↔ (d ∣ a ∧ d ∣ b))
      (fun σ _ => match σ with | [_, _, _, some (.int s)] => s.toNat | _ => 0) ?_ ?_ ?_
    · refine ⟨rfl, _, _, rfl, by split <;> omega, by split <;> omega, ?_⟩
      intro d
      have e1 : ∀ x : Int, d ∣ (if x < 0 then -x else x) ↔ d ∣ x := fun x => by
        split
        · exact Int.dvd_neg
        · exact Iff.rfl
      rw [e1, e1]
    · rintro σ H' ⟨rfl, f, s, rfl, hf, hs, hd⟩
      refine ⟨_, rfl, (s != 0), rfl, ite2 (fun hc => ?_) (fun hc => ?_)⟩
      · have h0 : s ≠ 0 := by simpa using hc
        refine ⟨_, rfl, _, rfl, _, rfl, _, _, rfl, rfl, (by omega), _, _, rfl, ⟨rfl, s, f % s, rfl, hs, Int.emod_nonneg _ h0, fun d => ?_⟩, ?_⟩
        · rw [dvd_step]
          exact hd d
        · have := Int.emod_lt_of_pos f (show 0 < s by omega)
          have := Int.emod_nonneg f h0
          show (f % s).toNat < s.toNat
          omega
      · have h0 : s = 0 := by simpa using hc
        subst h0
        have := (hd f).mp ⟨Int.dvd_refl f, Int.dvd_zero f⟩
        refine ⟨_, rfl, k f ?_ this.1 this.2⟩
        rcases Int.lt_or_eq_of_le hf with h | h
        · exact h
        · rw [← h] at this
          have := Int.zero_dvd.mp this.2
          omega
    · rintro σ H' Q1 Q2 hq ⟨v, h1, k1, h2, h3⟩
      exact ⟨v, h1, k1, h2, hq _ _ h3⟩
/-- smaller than 2^60 -/
def Md (x : Int) : Prop := -(1152921504606846976 : Int) < x ∧ x < 1152921504606846976
theorem md64 {x : Int} (h : Md x) : -(2 ^ 64) < x ∧ x < 2 ^ 64 := by
  unfold Md at h
  omega
def spFraction : Sp := fun vs H Q _ => ∃ a b : Int, vs = [.int a, .int b] ∧ 0 < b ∧ Md b ∧ ∀ n d : Int, 0 < d → d ≤ b → n * b = a * d → (∃ g, 0 < g ∧ n * g = a) → ∀ p, H p = none → Q (.ref p) (upd H p (.tup [.int n, .int d]))
abbrev s_fraction : Stmt := topS 7
abbrev N_fraction : List Str := ["numerator", "denominator", "divisor"]
theorem sc_fraction : FnScope N_fraction ["numerator", "denominator"] (defScope s_fraction) := ⟨rfl, rfl, rfl, by decide +kernel, rfl, by decide +kernel, by decide +kernel⟩
theorem bd_fraction : BindsN "fraction" "fraction" s_fraction ["numerator", "denominator"] := fun _ _ _ _ _ _ us hl => match us, hl with | [_, _], _ => rfl
theorem ok_fraction (T : Txt mg) (D : DefAt K mg "fraction" s_fraction) (c_common_divisor : Cal P w K mg base 1 "common_divisor" spGcd []) : Cal P w K mg base 2 "fraction" spFraction [] := by
  refine cal_of D sc_fraction bd_fraction (fun vs H Q E h => ?_) (fun f cdv A outer s H vs Q E hr h => ?_)
  · obtain ⟨a, b, rfl, _⟩ := h
    rfl
  · obtain ⟨a, b, rfl, hb, mb, k⟩ := h
    refine ⟨_, (pss_cons (ps_set (i := 2) sc_fraction.nd rfl (.inl rfl) (C8.pe_c c_common_divisor hr (by decide) (by rfl) (pa_cons (pv 0) (pa_cons (pv 1) pa_nil))))
      (pss_one (ps_ret (pe_tup (pa_cons (pe_op op_fdivW (pv 0) (pv 2)) (pa_cons (pe_op op_fdivW (pv 1) (pv 2)) pa_nil)))))), ?_⟩
    refine ⟨_, rfl, _, rfl, a, b, rfl, hb, fun g hg ga gb => ?_⟩
    have gle : g ≤ b := Int.le_of_dvd hb gb
    have cd : ∀ x : Int, CDivW x g := fun x => wide_div (b := 60) hg (by unfold Md at mb; omega) (by decide) (by decide)
    refine ⟨_, rfl, _, rfl, _, _, rfl, rfl, cd _, _, rfl, _, rfl, _, _, rfl, rfl, cd _, (by show 2 ≤ sizeLine; decide), fun p hp => ?_⟩
    have e1 : a / g * g = a := Int.ediv_mul_cancel ga
    have e2 : b / g * g = b := Int.ediv_mul_cancel gb
    have hd : 0 < b / g := by
      rcases Int.lt_or_le 0 (b / g) with h | h
      · exact h
      · have := Int.mul_le_mul_of_nonneg_right h (Int.le_of_lt hg)
        rw [e2] at this
        omega
    refine k (a / g) (b / g) hd ?_ ?_ ⟨g, hg, e1⟩ p hp
    · have := Int.mul_le_mul_of_nonneg_left (show 1 ≤ g by omega) (Int.le_of_lt hd)
      rw [e2] at this
      omega
    · calc a / g * b = a / g * (b / g * g) := by rw [e2]
        _ = (a / g * g) * (b / g) := by grind
        _ = a * (b / g) := by rw [e1]
def spBetween : Sp := fun vs H Q _ => ∃ a b lo up, vs = [a, b] ∧ IsPt H a lo ∧ IsPt H b up ∧ ∀ H' v, Same H H' → IsPt H' v (sb lo up) → Q v H'
abbrev s_slope_between : Stmt := topS 8
abbrev N_slope_between : List Str := ["lower", "upper"]
theorem sc_slope_between : FnScope N_slope_between ["lower", "upper"] (defScope s_slope_between) := ⟨rfl, rfl, rfl, by decide +kernel, rfl, by decide +kernel, by decide +kernel⟩
theorem bd_slope_between : BindsN "slope_between" "slope_between" s_slope_between ["lower", "upper"] := fun _ _ _ _ _ _ us hl => match us, hl with | [_, _], _ => rfl
theorem ok_slope_between (T : Txt mg) (D : DefAt K mg "slope_between" s_slope_between) : Cal P w K mg base 1 "slope_between" spBetween [] := by
  refine cal_of D sc_slope_between bd_slope_between (fun vs H Q E h => ?_) (fun f cdv A outer s H vs Q E hr h => ?_)
  · obtain ⟨a, b, lo, up, rfl, _⟩ := h
    rfl
  · obtain ⟨a, b, lo, up, rfl, h1, h2, k⟩ := h
    obtain ⟨ta, rfl, ha⟩ := id h1
    obtain ⟨tb, rfl, hb⟩ := id h2
    refine ⟨_, (pss_cons (ps_if (pt_cmpR op_gt (pe_ix ix_tup (pv 0) pe_int (fun _ _ => rfl)) pe_int (nomark _)) (pss_one (ps_ret (pv 0))) pss_nil)
      (pss_cons (ps_if (pt_cmpR op_lt (pe_ix ix_tup (pv 1) pe_int (fun _ _ => rfl)) pe_int (nomark _)) (pss_one (ps_ret (pv 1))) pss_nil)
      (pss_one (ps_ret (pe_tup (pa_cons pe_int (pa_cons pe_int pa_nil))))))), ?_⟩
    refine ⟨_, rfl, _, _, _, _, rfl, rfl, SqT.of (ha), rfl, _, _, rfl, rfl, _, rfl, ite2 (fun c => ?_) (fun c => ?_)⟩
    · refine ⟨_, rfl, k H _ (Same.refl H) ?_⟩
      rw [show sb lo up = lo from if_pos (of_decide_eq_true c)]
      exact h1
    · have c1 : ¬ 0 < lo.1 := fun z => c (decide_eq_true z)
      refine ⟨_, rfl, _, _, _, _, rfl, rfl, SqT.of (hb), rfl, _, _, rfl, rfl, _, rfl, ite2 (fun c => ?_) (fun c => ?_)⟩
      · refine ⟨_, rfl, k H _ (Same.refl H) ?_⟩
        rw [show sb lo up = up by unfold sb; rw [if_neg c1, if_pos (of_decide_eq_true c)]]
        exact h2
      · have c2 : ¬ up.1 < 0 := fun z => c (decide_eq_true z)
        refine ⟨(by show 2 ≤ sizeLine; decide), fun p hp => k _ _ (same_upd hp) ⟨p, rfl, ?_⟩⟩
        rw [show sb lo up = (0, 1) by unfold sb; rw [if_neg c1, if_neg c2]]
        exact upd_same
/-! ### corners -/
def HasXY (H : Hp) (v : V) (x y : Int) : Prop := ∃ t xs, v = .ref t ∧ H t = some (.tup xs) ∧ xs[0]? = some (.int x) ∧ xs[1]? = some (.int y)
theorem HasXY.mono {H H' : Hp} {v : V} {x y : Int} (s : ∀ b xs, H b = some (.tup xs) → H' b = some (.tup xs)) (h : HasXY H v x y) : HasXY H' v x y := by
  obtain ⟨t, xs, e, h1, h2, h3⟩ := h
  exact ⟨t, xs, e, s _ _ h1, h2, h3⟩
theorem IsPt.xy {H : Hp} {v : V} {p : P2} (h : IsPt H v p) : HasXY H v p.1 p.2 := by
  obtain ⟨t, e, h1⟩ := h
  exact ⟨t, _, e, h1, rfl, rfl⟩
theorem IsTri.xy {H : Hp} {v : V} {p : L3} (h : IsTri H v p) : HasXY H v p.1 p.2.1 := by
  obtain ⟨t, e, h1⟩ := h
  exact ⟨t, _, e, h1, rfl, rfl⟩
def spTurn : Sp := fun vs H Q _ => ∃ a b c x1 y1 x2 y2 x3 y3, vs = [a, b, c] ∧ HasXY H a x1 y1 ∧ HasXY H b x2 y2 ∧ HasXY H c x3 y3 ∧ Md (x2 - x1) ∧ Md (y2 - y1) ∧ Q (.int ((x2 - x1) * (y3 - y1) - (y2 - y1) * (x3 - x1))) H
abbrev s_turn : Stmt := topS 11
abbrev N_turn : List Str := ["one", "two", "three"]
theorem sc_turn : FnScope N_turn ["one", "two", "three"] (defScope s_turn) := ⟨rfl, rfl, rfl, by decide +kernel, rfl, by decide +kernel, by decide +kernel⟩
theorem bd_turn : BindsN "turn" "turn" s_turn ["one", "two", "three"] := fun _ _ _ _ _ _ us hl => match us, hl with | [_, _, _], _ => rfl
theorem ok_turn (T : Txt mg) (D : DefAt K mg "turn" s_turn) : Cal P w K mg base 1 "turn" spTurn [] := by
  refine cal_of D sc_turn bd_turn (fun vs H Q E h => ?_) (fun f cdv A outer s H vs Q E hr h => ?_)
  · obtain ⟨a, b, c, x1, y1, x2, y2, x3, y3, rfl, _⟩ := h
    rfl
  · obtain ⟨a, b, c, x1, y1, x2, y2, x3, y3, rfl, ⟨ta, xa, rfl, ha, a0, a1⟩, ⟨tb, xb, rfl, hb, b0, b1⟩, ⟨tc, xc, rfl, hc, c0, c1⟩, m1, m2, k⟩ := h
    refine ⟨_, (pss_one (ps_ret (pe_op op_sub (pe_op op_mul (pe_op op_sub (pe_ix ix_tup (pv 1) pe_int (fun _ _ => rfl)) (pe_ix ix_tup (pv 0) pe_int (fun _ _ => rfl))) (pe_op op_sub (pe_ix ix_tup (pv 2) pe_int (fun _ _ => rfl)) (pe_ix ix_tup (pv 0) pe_int (fun _ _ => rfl)))) (pe_op op_mul (pe_op op_sub (pe_ix ix_tup (pv 1) pe_int (fun _ _ => rfl)) (pe_ix ix_tup (pv 0) pe_int (fun _ _ => rfl))) (pe_op op_sub (pe_ix ix_tup (pv 2) pe_int (fun _ _ => rfl)) (pe_ix ix_tup (pv 0) pe_int (fun _ _ => rfl))))))), ?_⟩
    refine ⟨_, rfl, _, _, _, _, rfl, rfl, SqT.of hb, atI_nat (j := 0) b0, _, rfl, _, _, _, _, rfl, rfl, SqT.of ha, atI_nat (j := 0) a0, _, _, rfl, rfl, _, rfl, _, _, _, _, rfl, rfl, SqT.of hc, atI_nat (j := 1) c1, _, rfl, _, _, _, _, rfl, rfl, SqT.of ha, atI_nat (j := 1) a1, _, _, rfl, rfl, _, _, rfl, rfl, .inl (md64 m1), ?_⟩
    refine ⟨_, rfl, _, _, _, _, rfl, rfl, SqT.of hb, atI_nat (j := 1) b1, _, rfl, _, _, _, _, rfl, rfl, SqT.of ha, atI_nat (j := 1) a1, _, _, rfl, rfl, _, rfl, _, _, _, _, rfl, rfl, SqT.of hc, atI_nat (j := 0) c0, _, rfl, _, _, _, _, rfl, rfl, SqT.of ha, atI_nat (j := 0) a0, _, _, rfl, rfl, _, _, rfl, rfl, .inl (md64 m2), _, _, rfl, rfl, ?_⟩
    exact k
def spRise : Sp := fun vs H Q _ => ∃ a b x1 y1 x2 y2, vs = [a, b] ∧ HasXY H a x1 y1 ∧ HasXY H b x2 y2 ∧ ∀ p, H p = none → Q (.ref p) (upd H p (.tup [.int (y2 - y1), .int (x2 - x1)]))
abbrev s_rise_over : Stmt := topS 12
abbrev N_rise_over : List Str := ["one", "other"]
theorem sc_rise_over : FnScope N_rise_over ["one", "other"] (defScope s_rise_over) := ⟨rfl, rfl, rfl, by decide +kernel, rfl, by decide +kernel, by decide +kernel⟩
theorem bd_rise_over : BindsN "rise_over" "rise_over" s_rise_over ["one", "other"] := fun _ _ _ _ _ _ us hl => match us, hl with | [_, _], _ => rfl
theorem ok_rise_over (T : Txt mg) (D : DefAt K mg "rise_over" s_rise_over) : Cal P w K mg base 1 "rise_over" spRise [] := by
  refine cal_of D sc_rise_over bd_rise_over (fun vs H Q E h => ?_) (fun f cdv A outer s H vs Q E hr h => ?_)
  · obtain ⟨a, b, x1, y1, x2, y2, rfl, _⟩ := h
    rfl
  · obtain ⟨a, b, x1, y1, x2, y2, rfl, ⟨ta, xa, rfl, ha, a0, a1⟩, ⟨tb, xb, rfl, hb, b0, b1⟩, k⟩ := h
    refine ⟨_, (pss_one (ps_ret (pe_tup (pa_cons (pe_op op_sub (pe_ix ix_tup (pv 1) pe_int (fun _ _ => rfl)) (pe_ix ix_tup (pv 0) pe_int (fun _ _ => rfl))) (pa_cons (pe_op op_sub (pe_ix ix_tup (pv 1) pe_int (fun _ _ => rfl)) (pe_ix ix_tup (pv 0) pe_int (fun _ _ => rfl))) pa_nil))))), ?_⟩
    refine ⟨_, rfl, _, _, _, _, rfl, rfl, SqT.of hb, atI_nat (j := 1) b1, _, rfl, _, _, _, _, rfl, rfl, SqT.of ha, atI_nat (j := 1) a1, _, _, rfl, rfl, _, rfl, _, _, _, _, rfl, rfl, SqT.of hb, atI_nat (j := 0) b0, _, rfl, _, _, _, _, rfl, rfl, SqT.of ha, atI_nat (j := 0) a0, _, _, rfl, rfl, (by show 2 ≤ sizeLine; decide), k⟩
def spBelow : Sp := fun vs H Q _ => ∃ a b p q, vs = [a, b] ∧ IsPt H a p ∧ IsPt H b q ∧ Md p.2 ∧ Md q.2 ∧ Q (.bl (decide (p.1 * q.2 < q.1 * p.2))) H
abbrev s_is_below : Stmt := topS 13
abbrev N_is_below : List Str := ["one", "other"]
theorem sc_is_below : FnScope N_is_below ["one", "other"] (defScope s_is_below) := ⟨rfl, rfl, rfl, by decide +kernel, rfl, by decide +kernel, by decide +kernel⟩
theorem bd_is_below : BindsN "is_below" "is_below" s_is_below ["one", "other"] := fun _ _ _ _ _ _ us hl => match us, hl with | [_, _], _ => rfl
theorem ok_is_below (T : Txt mg) (D : DefAt K mg "is_below" s_is_below) : Cal P w K mg base 1 "is_below" spBelow [] := by
  refine cal_of D sc_is_below bd_is_below (fun vs H Q E h => ?_) (fun f cdv A outer s H vs Q E hr h => ?_)
  · obtain ⟨a, b, p, q, rfl, _⟩ := h
    rfl
  · obtain ⟨a, b, p, q, rfl, ⟨ta, rfl, ha⟩, ⟨tb, rfl, hb⟩, m1, m2, k⟩ := h
    refine ⟨_, (pss_one (ps_ret (pe_cmpR op_lt (pe_op op_mul (pe_ix ix_tup (pv 0) pe_int (fun _ _ => rfl)) (pe_ix ix_tup (pv 1) pe_int (fun _ _ => rfl))) (pe_op op_mul (pe_ix ix_tup (pv 1) pe_int (fun _ _ => rfl)) (pe_ix ix_tup (pv 0) pe_int (fun _ _ => rfl))) (nomark _)))), ?_⟩
    refine ⟨_, rfl, _, _, _, _, rfl, rfl, SqT.of (ha), rfl, _, rfl, _, _, _, _, rfl, rfl, SqT.of (hb), rfl, _, _, rfl, rfl, .inr (md64 m2), _, rfl, _, _, _, _, rfl, rfl, SqT.of (hb), rfl, _, rfl, _, _, _, _, rfl, rfl, SqT.of (ha), rfl, _, _, rfl, rfl, .inr (md64 m1), _, _, rfl, rfl, ?_⟩
    exact k
/-! ### a line with a slope -/
def spWithSlope : Sp := fun vs H Q _ => ∃ a s pts e p d, vs = [.ref a, .int e, s] ∧ LsOf IsPt H a pts ∧ IsPt H s (p, d) ∧ (∀ pt ∈ pts, SmP pt) ∧ Sm e ∧ Md p ∧ pts ≠ [] ∧ pts.length ≤ 1000 ∧
  ∀ H' v m, Same H H' → m ∈ pts → (∀ pt ∈ pts, lowQ p d e pt ≤ lowQ p d e m) → IsTri H' v (p, lowQ p d e m, d) → Q v H'
abbrev s_line_with_slope : Stmt := topS 9
abbrev N_line_with_slope : List Str := ["points", "error", "slope", "p", "d", "place", "height"]
theorem sc_line_with_slope : FnScope N_line_with_slope ["points", "error", "slope"] (defScope s_line_with_slope) := ⟨rfl, rfl, rfl, by decide +kernel, rfl, by decide +kernel, by decide +kernel⟩
theorem bd_line_with_slope : BindsN "line_with_slope" "line_with_slope" s_line_with_slope ["points", "error", "slope"] := fun _ _ _ _ _ _ us hl => match us, hl with | [_, _, _], _ => rfl
theorem ok_line_with_slope (T : Txt mg) (D : DefAt K mg "line_with_slope" s_line_with_slope) : Cal P w K mg base 1 "line_with_slope" spWithSlope [] := by
  refine cal_of D sc_line_with_slope bd_line_with_slope (fun vs H Q E h => ?_) (fun f cdv A outer s H vs Q E hr h => ?_)
  · obtain ⟨a, s, pts, e, p, d, rfl, _⟩ := h
    rfl
  · obtain ⟨a, sl, pts, e, p, d, rfl, ⟨vs, ha, hvs⟩, ⟨ts, rfl, hs⟩, sp, se, mp, hne, hlen, k⟩ := h
    have hL : vs.length = pts.length := hvs.length
    refine ⟨_, (pss_cons (ps_asg (pv 2) (pg_tup (by rfl) (pgs_cons (pg_name (i := 3) sc_line_with_slope.nd rfl (.inr rfl)) (pgs_cons (pg_name (i := 4) sc_line_with_slope.nd rfl (.inr rfl)) pgs_nil))))
      (pss_one (ps_ret (pe_tup (pa_cons (pv 3) (pa_cons (pe_callB (cr_max rfl) (by rfl) T.max (by decide +kernel) (pa_cons (pe_lc (own := [("place", 5), ("height", 6)]) (g := (gTup K 2 (gCons (gName 5) (gCons (gName 6) gNil)))) (tt := tYes) rfl sc_line_with_slope.nd (pi_list (pv 0)) (blkOk_by (N := N_line_with_slope) (own := [("place", 5), ("height", 6)]) (sc := defScope s_line_with_slope) (by decide +kernel)) (fun _ _ _ _ _ => by exact (pg_tup (by rfl) (pgs_cons (pg_name (i := 5) sc_line_with_slope.nd rfl (.inl rfl)) (pgs_cons (pg_name (i := 6) sc_line_with_slope.nd rfl (.inl rfl)) pgs_nil)))) (fun _ _ _ _ _ => pts_nil) (fun _ _ _ _ _ => by exact (pe_op op_sub (pe_op op_sub (pe_op op_mul (pv 6) (pv 4)) (pe_op op_mul (pv 1) (pv 4))) (pe_op op_mul (pv 3) (pv 5))))) pa_nil)) (pa_cons (pv 4) pa_nil))))))), ?_⟩
    refine ⟨_, rfl, ts, _, rfl, SqT.of hs, rfl, _, _, rfl, _, _, rfl, rfl, ?_⟩
    refine ⟨_, rfl, _, rfl, a, rfl, ⟨_, SqL.of ha⟩, fun D hD => lc_list (K := K) (a := a) (xs := vs) (fun i H' => Same H H' ∧ H' D = some (.lst (((pts.take i).map (lowQ p d e)).map V.int))) ⟨same_upd hD, upd_same⟩
      (fun i H' _ q => SqL.of (q.1 _ _ ha)) ?_ ?_⟩
    · rintro i x H' hx ⟨s1, hd1⟩
      obtain ⟨pt, hp, ⟨tx, rfl, hx2⟩⟩ := paired_get hvs hx
      have hm := List.mem_of_getElem? hp
      refine ⟨tx, _, rfl, SqT.of (s1 _ _ hx2), rfl, _, _, rfl, _, _, rfl, rfl, rfl, ?_⟩
      refine ⟨_, rfl, _, rfl, _, _, rfl, rfl, .inl (sm64 (sp pt hm).2), _, rfl, _, rfl, _, _, rfl, rfl, .inl (sm64 se), _, _, rfl, rfl, _, rfl, _, rfl, _, _, rfl, rfl, .inr (sm64 (sp pt hm).1), _, _, rfl, rfl, _, hd1, ?_, ?_, ?_⟩
      · rw [List.length_map, List.length_map, List.length_take]
        exact Nat.lt_of_le_of_lt (Nat.min_le_left _ _) (small1000 (by have := (List.getElem?_eq_some_iff.mp hx).1; omega))
      · exact fun b o q => by
          rw [upd_ne (ne_of_none q hD)]
          exact s1 b o q
      · rw [upd_same, take_get hp, List.map_append, List.map_append]
        rfl
    · rintro H' ⟨s1, hd1⟩
      rw [hL, List.take_length] at hd1
      refine ⟨D, pts.map (lowQ p d e), rfl, SqL.of hd1, ?_, fun q hq hle => ?_⟩
      · rw [List.length_map]
        exact List.length_pos_iff.mpr hne
      · obtain ⟨m, hm, rfl⟩ := List.mem_map.mp hq
        refine ⟨_, rfl, (by show 3 ≤ sizeLine; decide), fun t ht => k _ _ m (sameU s1 ht) hm (fun pt hpt => hle _ (List.mem_map_of_mem hpt)) ⟨t, rfl, upd_same⟩⟩
end
end KW
namespace KW
open PySem PySem.Spec PyProof.Rows L2 KG
/-! ### the Fitter's state -/
structure FitC (K : PySem.W.Frag) (CF : Addr) : Prop where
  cl : Cls K CF
  error : NoAttr K CF "error"
  count : NoAttr K CF "count"
  points : NoAttr K CF "_points"
  tops : NoAttr K CF "_tops"
  bottoms : NoAttr K CF "_bottoms"
  flat : NoAttr K CF "_flat"
  steep : NoAttr K CF "_steep"
def fitF (e n : Int) (aP aT aB : Addr) (fv sv : V) : List (Str × V) := [("error", .int e), ("count", .int n), ("_points", .ref aP), ("_tops", .ref aT), ("_bottoms", .ref aB), ("_flat", fv), ("_steep", sv)]
def IsTop (e : Int) (pts : List P2) (c : L3) : Prop := ∃ (i : Nat) (p : P2), pts[i]? = some p ∧ c = (p.1, p.2 + e, (i : Int))
def IsBot (e : Int) (pts : List P2) (c : L3) : Prop := ∃ (i : Nat) (p : P2), pts[i]? = some p ∧ c = (p.1, p.2 - e, (i : Int))
def FlatAt (H : Hp) (e : Int) (pts : List P2) (fv : V) : Prop := ∃ (t : Addr) (u1 u2 : V) (i j : Nat) (p q : P2), fv = .ref t ∧ H t = some (.tup [u1, u2]) ∧ IsTri H u1 (p.1, p.2 + e, (i : Int)) ∧ IsTri H u2 (q.1, q.2 - e, (j : Int)) ∧ pts[i]? = some p ∧ pts[j]? = some q ∧ FlatOK e pts p q
def SteepAt (H : Hp) (e : Int) (pts : List P2) (sv : V) : Prop := ∃ (t : Addr) (u1 u2 : V) (i j : Nat) (p q : P2), sv = .ref t ∧ H t = some (.tup [u1, u2]) ∧ IsTri H u1 (p.1, p.2 - e, (i : Int)) ∧ IsTri H u2 (q.1, q.2 + e, (j : Int)) ∧ pts[i]? = some p ∧ pts[j]? = some q ∧ SteepOK e pts p q
theorem FlatAt.mono {H H' : Hp} {e : Int} {pts : List P2} {fv : V} (s : ∀ b xs, H b = some (.tup xs) → H' b = some (.tup xs)) (h : FlatAt H e pts fv) : FlatAt H' e pts fv := by
  obtain ⟨t, u1, u2, i, j, p, q, e1, h1, h2, h3, h4⟩ := h
  exact ⟨t, u1, u2, i, j, p, q, e1, s _ _ h1, IsTri.mono _ _ _ _ s h2, IsTri.mono _ _ _ _ s h3, h4⟩
theorem SteepAt.mono {H H' : Hp} {e : Int} {pts : List P2} {fv : V} (s : ∀ b xs, H b = some (.tup xs) → H' b = some (.tup xs)) (h : SteepAt H e pts fv) : SteepAt H' e pts fv := by
  obtain ⟨t, u1, u2, i, j, p, q, e1, h1, h2, h3, h4⟩ := h
  exact ⟨t, u1, u2, i, j, p, q, e1, s _ _ h1, IsTri.mono _ _ _ _ s h2, IsTri.mono _ _ _ _ s h3, h4⟩
/-- what is known of the points and the error -/
structure PtsOK (e : Int) (pts : List P2) : Prop where
  asc : Asc pts
  sm : ∀ p ∈ pts, SmP p
  se : Sm e
  he : 0 ≤ e
  len : pts.length ≤ 900
/-- the hulls -/
structure HullOK (e : Int) (pts : List P2) (tops bots : List L3) : Prop where
  tw : ∀ c ∈ tops, IsTop e pts c
  bw : ∀ c ∈ bots, IsBot e pts c
  ta : tops.Pairwise (fun a b => a.1 < b.1)
  ba : bots.Pairwise (fun a b => a.1 < b.1)
  tn : pts ≠ [] → tops ≠ []
  bn : pts ≠ [] → bots ≠ []
  tl : tops.length ≤ pts.length
  bl : bots.length ≤ pts.length
  td : ∀ X, (∀ p ∈ pts, p.1 ≤ X) → Dom 1 (pts.map fun p => (p.1, p.2 + e)) tops X
  bd : ∀ X, (∀ p ∈ pts, p.1 ≤ X) → Dom (-1) (pts.map fun p => (p.1, p.2 - e)) bots X
/-- the Fitter at f with these points; own: the objects that it writes -/
structure FitAt (H : Hp) (f CF : Addr) (e : Int) (pts : List P2) (own : List Addr) : Prop where
  ex : ∃ (aP aT aB dx : Addr) (fv sv : V) (tops bots : List L3), own = [f, aP, aT, aB] ∧ H f = some (.ins CF dx (fitF e pts.length aP aT aB fv sv)) ∧ LsOf IsPt H aP pts ∧ LsOf IsTri H aT tops ∧ LsOf IsTri H aB bots ∧ aP ≠ aT ∧ aP ≠ aB ∧ aT ≠ aB ∧
    HullOK e pts tops bots ∧ (2 ≤ pts.length → FlatAt H e pts fv ∧ SteepAt H e pts sv)
  ok : PtsOK e pts
  pairs : PairsOK e pts
/-- all but own is kept -/
def Kept (own : List Addr) (H H' : Hp) : Prop := ∀ b o, H b = some o → b ∉ own → H' b = some o
theorem IsTri.md {H : Hp} {v : V} {p : L3} (h : IsTri H v p) : HasXY H v p.1 p.2.1 := h.xy
theorem three_of_pairs {e : Int} {pts : List P2} {p q n : P2} (P : PairsOK e (pts ++ [n])) (hp : p ∈ pts) (hq : q ∈ pts) (hpq : p.1 < q.1) (hqn : q.1 < n.1) : three p q n e = true := by
  have h1 := P p (memL hp) q (memL hq) q (memL hq) n memN hpq hqn
  have h2 := P q (memL hq) n memN p (memL hp) q (memL hq) hqn hpq
  unfold LU at h1 h2
  rw [three_iff]
  unfold mid
  constructor <;> grind
section
variable {P : Program} {w : World} {K : PySem.W.Frag} {mg : Str → Option Value} {base : Heap} {CF : Addr}
def spConflict (CF : Addr) : Sp := fun vs H Q _ => ∃ f v e pts own n, vs = [.ref f, v] ∧ FitAt H f CF e pts own ∧ IsPt H v n ∧ SmP n ∧ (∀ p ∈ pts, p.1 < n.1) ∧
  (∀ H', Same H H' → PairsOK e (pts ++ [n]) → Q .non H') ∧
  (∀ H' v' (i j : Nat) p q, Same H H' → IsPt H' v' ((i : Int), (j : Int)) → i < j → pts[i]? = some p → pts[j]? = some q → three p q n e = false → p.1 < q.1 → Q v' H')
theorem ix_lt {pts : List P2} (ha : Asc pts) {i j : Nat} {p q : P2} (h1 : pts[i]? = some p) (h2 : pts[j]? = some q) (h : p.1 < q.1) : i < j := by
  rcases Nat.lt_trichotomy i j with c | c | c
  · exact c
  · subst c
    rw [h1] at h2
    cases h2
    omega
  · have := asc_at ha h2 h1 c
    omega
theorem sm_sub {x y : Int} (h1 : Sm x) (h2 : Sm y) : Md (x - y) := by
  unfold Sm at h1 h2
  unfold Md
  omega
abbrev s_Fitter_conflict : Stmt := inClass (topS 14) 1
abbrev N_Fitter_conflict : List Str := ["self", "point", "place", "height"]
theorem sc_Fitter_conflict : FnScope N_Fitter_conflict ["self", "point"] (defScope s_Fitter_conflict) := ⟨rfl, rfl, rfl, by decide +kernel, rfl, by decide +kernel, by decide +kernel⟩
theorem bd_Fitter_conflict : BindsN "conflict" "Fitter.conflict" s_Fitter_conflict ["self", "point"] := fun _ _ _ _ _ _ us hl => match us, hl with | [_, _], _ => rfl
theorem ok_Fitter_conflict (T : Txt mg) (FC : FitC K CF) (D : MethAt K CF "conflict" "Fitter.conflict" s_Fitter_conflict) (c_is_below : Cal P w K mg base 1 "is_below" spBelow []) (c_rise_over : Cal P w K mg base 1 "rise_over" spRise []) : C8.Met P w K mg base 2 CF "conflict" (spConflict CF) [] := by
  refine met_of FC.cl D sc_Fitter_conflict bd_Fitter_conflict (fun vs H Q E h => ?_) (fun f cdv A outer s H vs Q E hr h => ?_)
  · obtain ⟨f, v, e, pts, own, n, rfl, _⟩ := h
    rfl
  · obtain ⟨f, v, e, pts, own, n, rfl, F, ⟨tv, rfl, hv⟩, sn, hn, k1, k2⟩ := h
    obtain ⟨aP, aT, aB, dx, fv, sv, tops, bots, _, hf, _, _, _, _, _, _, _, hFS⟩ := F.ex
    have J := F.ok.asc.inj
    have he := F.ok.he
    refine ⟨_, (pss_cons (ps_if (pt_cmpR op_lt (pe_fld (pv 0) rfl) pe_int (nomark _)) (pss_one (ps_ret pe_non)) pss_nil)
      (pss_cons (ps_asg (pv 1) (pg_tup (by rfl) (pgs_cons (pg_name (i := 2) sc_Fitter_conflict.nd rfl (.inl rfl)) (pgs_cons (pg_name (i := 3) sc_Fitter_conflict.nd rfl (.inl rfl)) pgs_nil))))
      (pss_cons (ps_if (pt_val (C8.pe_c c_is_below hr (by decide) (by rfl) (pa_cons (C8.pe_c c_rise_over hr (by decide) (by rfl) (pa_cons (pe_ix ix_tup (pe_fld (pv 0) rfl) pe_int (fun _ _ => rfl)) (pa_cons (pe_tup (pa_cons (pv 2) (pa_cons (pe_op op_add (pv 3) (pe_fld (pv 0) rfl)) pa_nil))) pa_nil))) (pa_cons (C8.pe_c c_rise_over hr (by decide) (by rfl) (pa_cons (pe_ix ix_tup (pe_fld (pv 0) rfl) pe_int (fun _ _ => rfl)) (pa_cons (pe_ix ix_tup (pe_fld (pv 0) rfl) pe_int (fun _ _ => rfl)) pa_nil))) pa_nil)))) (pss_one (ps_ret (pe_tup (pa_cons (pe_ix ix_tup (pe_ix ix_tup (pe_fld (pv 0) rfl) pe_int (fun _ _ => rfl)) pe_int (fun _ _ => rfl)) (pa_cons (pe_ix ix_tup (pe_ix ix_tup (pe_fld (pv 0) rfl) pe_int (fun _ _ => rfl)) pe_int (fun _ _ => rfl)) pa_nil))))) pss_nil)
      (pss_cons (ps_if (pt_val (C8.pe_c c_is_below hr (by decide) (by rfl) (pa_cons (C8.pe_c c_rise_over hr (by decide) (by rfl) (pa_cons (pe_ix ix_tup (pe_fld (pv 0) rfl) pe_int (fun _ _ => rfl)) (pa_cons (pe_ix ix_tup (pe_fld (pv 0) rfl) pe_int (fun _ _ => rfl)) pa_nil))) (pa_cons (C8.pe_c c_rise_over hr (by decide) (by rfl) (pa_cons (pe_ix ix_tup (pe_fld (pv 0) rfl) pe_int (fun _ _ => rfl)) (pa_cons (pe_tup (pa_cons (pv 2) (pa_cons (pe_op op_sub (pv 3) (pe_fld (pv 0) rfl)) pa_nil))) pa_nil))) pa_nil)))) (pss_one (ps_ret (pe_tup (pa_cons (pe_ix ix_tup (pe_ix ix_tup (pe_fld (pv 0) rfl) pe_int (fun _ _ => rfl)) pe_int (fun _ _ => rfl)) (pa_cons (pe_ix ix_tup (pe_ix ix_tup (pe_fld (pv 0) rfl) pe_int (fun _ _ => rfl)) pe_int (fun _ _ => rfl)) pa_nil))))) pss_nil)
      (pss_one (ps_ret pe_non)))))), ?_⟩
    refine ⟨_, rfl, _, _, _, _, _, rfl, hf, FC.cl, FC.count, rfl, _, _, rfl, rfl, _, rfl, ite2 (fun c => ?_) (fun c => ?_)⟩
    · refine k1 H (Same.refl H) ?_
      have hl : (pts.length : Int) < 2 := of_decide_eq_true c
      match pts, hl, hn with
      | [], _, _ =>
        intro p hp q hq a ha b hb hpq
        simp at hp hq
        subst hp hq
        omega
      | [a], _, hn => exact (pairs_two he (hn a (by simp))).1
    · have hl : 2 ≤ pts.length := by
        have : ¬ (pts.length : Int) < 2 := fun z => c (decide_eq_true z)
        omega
      obtain ⟨⟨tf, u1, u2, i1, i2, p1, p2, rfl, ht, ⟨t1, rfl, h1⟩, ⟨t2, rfl, h2⟩, g1, g2, FO⟩, ⟨ts, w1, w2, j1, j2, q1, q2, rfl, hs, ⟨s1, rfl, h3⟩, ⟨s2, rfl, h4⟩, g3, g4, SO⟩⟩ := hFS hl
      have m1 := F.ok.sm p1 FO.mf
      have m2 := F.ok.sm p2 FO.mg
      have m3 := F.ok.sm q1 SO.mh
      have m4 := F.ok.sm q2 SO.mk_
      refine ⟨_, rfl, tv, _, rfl, SqT.of hv, rfl, _, _, rfl, _, _, rfl, rfl, ?_⟩
      -- the flattest line
      refine ⟨_, rfl, _, _, _, _, _, rfl, hf, FC.cl, FC.flat, rfl, _, _, _, _, rfl, rfl, SqT.of ht, rfl, _, rfl, _, rfl, _, rfl, _, _, _, _, _, rfl, hf, FC.cl, FC.error, rfl, _, _, rfl, rfl, (by show 2 ≤ sizeLine; decide), fun a na => ?_⟩
      have S1 := same_upd (o := .tup [.int n.1, .int (n.2 + e)]) na
      refine ⟨_, _, p2.1, p2.2 - e, n.1, n.2 + e, rfl, ⟨t2, _, rfl, S1 _ _ h2, rfl, rfl⟩, ⟨a, _, rfl, upd_same, rfl, rfl⟩, fun b nb => ?_⟩
      have S2 := sameU (o := .tup [.int (n.2 + e - (p2.2 - e)), .int (n.1 - p2.1)]) S1 nb
      refine ⟨_, rfl, _, _, _, _, _, rfl, S2 _ _ hf, FC.cl, FC.flat, rfl, _, _, _, _, rfl, rfl, SqT.of (S2 _ _ ht), rfl, _, rfl, _, _, _, _, _, rfl, S2 _ _ hf, FC.cl, FC.flat, rfl, _, _, _, _, rfl, rfl, SqT.of (S2 _ _ ht), rfl, ?_⟩
      refine ⟨_, _, p1.1, p1.2 + e, p2.1, p2.2 - e, rfl, ⟨t1, _, rfl, S2 _ _ h1, rfl, rfl⟩, ⟨t2, _, rfl, S2 _ _ h2, rfl, rfl⟩, fun d nd => ?_⟩
      have S3 := sameU (o := .tup [.int (p2.2 - e - (p1.2 + e)), .int (p2.1 - p1.1)]) S2 nd
      refine ⟨_, _, (n.2 + e - (p2.2 - e), n.1 - p2.1), (p2.2 - e - (p1.2 + e), p2.1 - p1.1), rfl, ⟨b, rfl, by rw [upd_ne (ne_of_none upd_same nd)]; exact upd_same⟩, ⟨d, rfl, upd_same⟩, sm_sub sn.1 m2.1, sm_sub m2.1 m1.1, _, rfl, ite2 (fun c => ?_) (fun c => ?_)⟩
      · have c' : (n.2 + e - (p2.2 - e)) * (p2.1 - p1.1) < (p2.2 - e - (p1.2 + e)) * (n.1 - p2.1) := of_decide_eq_true c
        refine ⟨_, rfl, _, _, _, _, _, rfl, S3 _ _ hf, FC.cl, FC.flat, rfl, _, _, _, _, rfl, rfl, SqT.of (S3 _ _ ht), rfl, _, _, _, _, rfl, rfl, SqT.of (S3 _ _ h1), rfl, _, rfl, _, _, _, _, _, rfl, S3 _ _ hf, FC.cl, FC.flat, rfl, _, _, _, _, rfl, rfl, SqT.of (S3 _ _ ht), rfl, _, _, _, _, rfl, rfl, SqT.of (S3 _ _ h2), rfl, (by show 2 ≤ sizeLine; decide), fun g ng => ?_⟩
        exact k2 _ _ i1 i2 p1 p2 (sameU S3 ng) ⟨g, rfl, upd_same⟩ (ix_lt F.ok.asc g1 g2 FO.lt) g1 g2 (conflict_flat FO.lt (hn p2 FO.mg) (by grind)) FO.lt
      · have nc1 : (p2.2 - p1.2 - 2 * e) * (n.1 - p2.1) ≤ (n.2 - p2.2 + 2 * e) * (p2.1 - p1.1) := by
          have c' : ¬ (n.2 + e - (p2.2 - e)) * (p2.1 - p1.1) < (p2.2 - e - (p1.2 + e)) * (n.1 - p2.1) := fun z => c (decide_eq_true z)
          grind
        -- the steepest line
        refine ⟨_, rfl, _, _, _, _, _, rfl, S3 _ _ hf, FC.cl, FC.steep, rfl, _, _, _, _, rfl, rfl, SqT.of (S3 _ _ hs), rfl, _, rfl, _, _, _, _, _, rfl, S3 _ _ hf, FC.cl, FC.steep, rfl, _, _, _, _, rfl, rfl, SqT.of (S3 _ _ hs), rfl, ?_⟩
        refine ⟨_, _, q1.1, q1.2 - e, q2.1, q2.2 + e, rfl, ⟨s1, _, rfl, S3 _ _ h3, rfl, rfl⟩, ⟨s2, _, rfl, S3 _ _ h4, rfl, rfl⟩, fun a2 na2 => ?_⟩
        have S4 := sameU (o := .tup [.int (q2.2 + e - (q1.2 - e)), .int (q2.1 - q1.1)]) S3 na2
        refine ⟨_, rfl, _, _, _, _, _, rfl, S4 _ _ hf, FC.cl, FC.steep, rfl, _, _, _, _, rfl, rfl, SqT.of (S4 _ _ hs), rfl, _, rfl, _, rfl, _, rfl, _, _, _, _, _, rfl, S4 _ _ hf, FC.cl, FC.error, rfl, _, _, rfl, rfl, (by show 2 ≤ sizeLine; decide), fun b2 nb2 => ?_⟩
        have S5 := sameU (o := .tup [.int n.1, .int (n.2 - e)]) S4 nb2
        refine ⟨_, _, q2.1, q2.2 + e, n.1, n.2 - e, rfl, ⟨s2, _, rfl, S5 _ _ h4, rfl, rfl⟩, ⟨b2, _, rfl, upd_same, rfl, rfl⟩, fun d2 nd2 => ?_⟩
        have S6 := sameU (o := .tup [.int (n.2 - e - (q2.2 + e)), .int (n.1 - q2.1)]) S5 nd2
        refine ⟨_, _, (q2.2 + e - (q1.2 - e), q2.1 - q1.1), (n.2 - e - (q2.2 + e), n.1 - q2.1), rfl, ⟨a2, rfl, ?_⟩, ⟨d2, rfl, upd_same⟩, sm_sub m4.1 m3.1, sm_sub sn.1 m4.1, _, rfl, ite2 (fun c => ?_) (fun c => ?_)⟩
        · rw [upd_ne (ne_of_none (same_upd nb2 _ _ upd_same) nd2)]
          exact same_upd nb2 _ _ upd_same
        · have c' : (q2.2 + e - (q1.2 - e)) * (n.1 - q2.1) < (n.2 - e - (q2.2 + e)) * (q2.1 - q1.1) := of_decide_eq_true c
          refine ⟨_, rfl, _, _, _, _, _, rfl, S6 _ _ hf, FC.cl, FC.steep, rfl, _, _, _, _, rfl, rfl, SqT.of (S6 _ _ hs), rfl, _, _, _, _, rfl, rfl, SqT.of (S6 _ _ h3), rfl, _, rfl, _, _, _, _, _, rfl, S6 _ _ hf, FC.cl, FC.steep, rfl, _, _, _, _, rfl, rfl, SqT.of (S6 _ _ hs), rfl, _, _, _, _, rfl, rfl, SqT.of (S6 _ _ h4), rfl, (by show 2 ≤ sizeLine; decide), fun g ng => ?_⟩
          exact k2 _ _ j1 j2 q1 q2 (sameU S6 ng) ⟨g, rfl, upd_same⟩ (ix_lt F.ok.asc g3 g4 SO.lt) g3 g4 (conflict_steep SO.lt (hn q2 SO.mk_) (by grind)) SO.lt
        · have nc2 : (n.2 - q2.2 - 2 * e) * (q2.1 - q1.1) ≤ (q2.2 - q1.2 + 2 * e) * (n.1 - q2.1) := by
            have c' : ¬ (q2.2 + e - (q1.2 - e)) * (n.1 - q2.1) < (n.2 - e - (q2.2 + e)) * (q2.1 - q1.1) := fun z => c (decide_eq_true z)
            grind
          exact k1 _ S6 (pairs_new FO SO F.pairs J he hn nc1 nc2)
end
end KW
namespace KW
open PySem PySem.Spec PyProof.Rows L2 KG
theorem put_steep {e n : Int} {aP aT aB : Addr} {fv sv v : V} : putF "_steep" v (fitF e n aP aT aB fv sv) = fitF e n aP aT aB fv v := by rfl
theorem put_flat {e n : Int} {aP aT aB : Addr} {fv sv v : V} : putF "_flat" v (fitF e n aP aT aB fv sv) = fitF e n aP aT aB v sv := by rfl
theorem put_count {e n m : Int} {aP aT aB : Addr} {fv sv : V} : putF "count" (.int m) (fitF e n aP aT aB fv sv) = fitF e m aP aT aB fv sv := by rfl
theorem get_snoc {α : Type} {l : List α} {x y : α} {i : Nat} (h : l[i]? = some x) : (l ++ [y])[i]? = some x := by
  rw [List.getElem?_append_left (List.getElem?_eq_some_iff.mp h).1]
  exact h
theorem get_last {α : Type} {l : List α} {y : α} : (l ++ [y])[l.length]? = some y := by simp
theorem paired_mem {α β : Type} {F : α → β → Prop} {l : List α} {m : List β} {i : Nat} {x : α} (h : Paired F l m) (e : l[i]? = some x) : ∃ y, m[i]? = some y ∧ y ∈ m ∧ F x y := by
  obtain ⟨y, h1, h2⟩ := paired_get h e
  exact ⟨y, h1, List.mem_of_getElem? h1, h2⟩
section
variable {P : Program} {w : World} {K : PySem.W.Frag} {mg : Str → Option Value} {base : Heap} {CF : Addr}
/-! ### the extreme lines -/
def spLower (CF : Addr) : Sp := fun vs H Q _ => ∃ f v dx e m aP aT aB fv sv bots pts n, vs = [.ref f, v] ∧ H f = some (.ins CF dx (fitF e m aP aT aB fv sv)) ∧ LsOf IsTri H aB bots ∧ bots ≠ [] ∧ (∀ c ∈ bots, IsBot e pts c) ∧
  (∀ X, (∀ p ∈ pts, p.1 ≤ X) → Dom (-1) (pts.map fun p => (p.1, p.2 - e)) bots X) ∧ SteepAt H e pts sv ∧ PtsOK e pts ∧ PairsOK e pts ∧ IsTri H v (n.1, n.2 + e, (pts.length : Int)) ∧ SmP n ∧ (∀ p ∈ pts, p.1 < n.1) ∧
  ∀ H' sv', (∀ b o, H b = some o → b ≠ f → H' b = some o) → H' f = some (.ins CF dx (fitF e m aP aT aB fv sv')) → SteepAt H' e (pts ++ [n]) sv' → Q .non H'
abbrev s_Fitter_lower_steep : Stmt := inClass (topS 14) 4
abbrev N_Fitter_lower_steep : List Str := ["self", "top", "best", "corner"]
theorem sc_Fitter_lower_steep : FnScope N_Fitter_lower_steep ["self", "top"] (defScope s_Fitter_lower_steep) := ⟨rfl, rfl, rfl, by decide +kernel, rfl, by decide +kernel, by decide +kernel⟩
theorem bd_Fitter_lower_steep : BindsN "lower_steep" "Fitter.lower_steep" s_Fitter_lower_steep ["self", "top"] := fun _ _ _ _ _ _ us hl => match us, hl with | [_, _], _ => rfl
theorem ok_Fitter_lower_steep (T : Txt mg) (FC : FitC K CF) (D : MethAt K CF "lower_steep" "Fitter.lower_steep" s_Fitter_lower_steep) (c_is_below : Cal P w K mg base 1 "is_below" spBelow []) (c_rise_over : Cal P w K mg base 1 "rise_over" spRise []) : C8.Met P w K mg base 2 CF "lower_steep" (spLower CF) [] := by
  refine met_of FC.cl D sc_Fitter_lower_steep bd_Fitter_lower_steep (fun vs H Q E h => ?_) (fun f cdv A outer s H vs Q E hr h => ?_)
  · obtain ⟨f, v, dx, e, m, aP, aT, aB, fv, sv, bots, pts, n, rfl, _⟩ := h
    rfl
  · obtain ⟨f, v, dx, e, m, aP, aT, aB, fv, sv, bots, pts, n, rfl, hf, ⟨bs, hB, hbs⟩, bne, bbot, bdom, SA, PK, PR, ⟨tv, rfl, hv⟩, sn, hn, k⟩ := h
    have J := PK.asc.inj
    have he := PK.he
    obtain ⟨ts, w1, w2, j1, j2, q1, q2, rfl, hs, ⟨s1, rfl, h3⟩, ⟨s2, rfl, h4⟩, g3, g4, SO⟩ := id SA
    have m3 := PK.sm q1 SO.mh
    have m4 := PK.sm q2 SO.mk_
    refine ⟨_, (pss_cons (ps_if (pt_not (pt_val (C8.pe_c c_is_below hr (by decide) (by rfl) (pa_cons (C8.pe_c c_rise_over hr (by decide) (by rfl) (pa_cons (pe_ix ix_tup (pe_fld (pv 0) rfl) pe_int (fun _ _ => rfl)) (pa_cons (pv 1) pa_nil))) (pa_cons (C8.pe_c c_rise_over hr (by decide) (by rfl) (pa_cons (pe_ix ix_tup (pe_fld (pv 0) rfl) pe_int (fun _ _ => rfl)) (pa_cons (pe_ix ix_tup (pe_fld (pv 0) rfl) pe_int (fun _ _ => rfl)) pa_nil))) pa_nil))))) (pss_one ps_retN) pss_nil)
      (pss_cons (ps_set (i := 2) sc_Fitter_lower_steep.nd rfl (.inl rfl) (pe_ix ix_list (pe_fld (pv 0) rfl) pe_int (fun _ _ => rfl)))
      (pss_cons (ps_for PassesOwn.never rfl (pi_list (pe_fld (pv 0) rfl)) (pg_name (i := 3) sc_Fitter_lower_steep.nd rfl (.inl rfl)) (pss_one (ps_if (pt_val (C8.pe_c c_is_below hr (by decide) (by rfl) (pa_cons (C8.pe_c c_rise_over hr (by decide) (by rfl) (pa_cons (pv 3) (pa_cons (pv 1) pa_nil))) (pa_cons (C8.pe_c c_rise_over hr (by decide) (by rfl) (pa_cons (pv 2) (pa_cons (pv 1) pa_nil))) pa_nil)))) (pss_one (ps_set (i := 2) sc_Fitter_lower_steep.nd rfl (.inl rfl) (pv 3))) pss_nil)))
      (pss_one (ps_fld (pv 0) (pe_tup (pa_cons (pv 2) (pa_cons (pv 1) pa_nil))) rfl))))), ?_⟩
    refine ⟨_, rfl, _, _, _, _, _, rfl, hf, FC.cl, FC.steep, rfl, _, _, _, _, rfl, rfl, SqT.of hs, rfl, _, rfl, _, _, q1.1, q1.2 - e, n.1, n.2 + e, rfl, ⟨s1, _, rfl, h3, rfl, rfl⟩, ⟨tv, _, rfl, hv, rfl, rfl⟩, fun a na => ?_⟩
    have S1 := same_upd (o := .tup [.int (n.2 + e - (q1.2 - e)), .int (n.1 - q1.1)]) na
    refine ⟨_, rfl, _, _, _, _, _, rfl, S1 _ _ hf, FC.cl, FC.steep, rfl, _, _, _, _, rfl, rfl, SqT.of (S1 _ _ hs), rfl, _, rfl, _, _, _, _, _, rfl, S1 _ _ hf, FC.cl, FC.steep, rfl, _, _, _, _, rfl, rfl, SqT.of (S1 _ _ hs), rfl, ?_⟩
    refine ⟨_, _, q1.1, q1.2 - e, q2.1, q2.2 + e, rfl, ⟨s1, _, rfl, S1 _ _ h3, rfl, rfl⟩, ⟨s2, _, rfl, S1 _ _ h4, rfl, rfl⟩, fun b nb => ?_⟩
    have S2 := sameU (o := .tup [.int (q2.2 + e - (q1.2 - e)), .int (q2.1 - q1.1)]) S1 nb
    refine ⟨_, _, (n.2 + e - (q1.2 - e), n.1 - q1.1), (q2.2 + e - (q1.2 - e), q2.1 - q1.1), rfl, ⟨a, rfl, same_upd nb _ _ upd_same⟩, ⟨b, rfl, upd_same⟩, sm_sub sn.1 m3.1, sm_sub m4.1 m3.1, _, rfl, ite2 (fun c => ?_) (fun c => ?_)⟩
    · have c' : ¬ (n.2 + e - (q1.2 - e)) * (q2.1 - q1.1) < (q2.2 + e - (q1.2 - e)) * (n.1 - q1.1) := by simpa using c
      refine k _ _ (fun b o q _ => S2 b o q) (S2 _ _ hf) ?_
      exact ⟨ts, _, _, j1, j2, q1, q2, rfl, S2 _ _ hs, ⟨s1, rfl, S2 _ _ h3⟩, ⟨s2, rfl, S2 _ _ h4⟩, get_snoc g3, get_snoc g4, SO.keep PR J he hn (by grind)⟩
    · have c' : (n.2 + e - (q1.2 - e)) * (q2.1 - q1.1) < (q2.2 + e - (q1.2 - e)) * (n.1 - q1.1) := by simpa using c
      obtain ⟨b0, bs', rfl⟩ : ∃ b0 bs', bs = b0 :: bs' := by
        cases bs with
        | nil => cases hbs; exact absurd rfl bne
        | cons x r => exact ⟨x, r, rfl⟩
      obtain ⟨c0, hc0, mc0, i0⟩ := paired_mem (i := 0) hbs rfl
      have len900 : bots.length ≤ bots.length := Nat.le_refl _
      refine ⟨_, rfl, _, _, _, _, _, rfl, S2 _ _ hf, FC.cl, FC.bottoms, rfl, _, _, _, _, rfl, rfl, SqL.of (S2 _ _ hB), atI_nat (j := 0) rfl, ?_⟩
      refine ⟨_, rfl, _, _, _, _, _, rfl, S2 _ _ hf, FC.cl, FC.bottoms, rfl, aB, rfl, ⟨_, SqL.of (S2 _ _ hB)⟩, for_list (K := K) (a := aB) (xs := b0 :: bs') (fun i σ H' => Same H H' ∧ ∃ bv y b, σ = [some (.ref f), some (.ref tv), some bv, y] ∧ IsTri H bv b ∧ b ∈ bots ∧
        ∀ c ∈ bots.take i, (n.2 + e - b.2.1) * (n.1 - c.1) ≤ (n.2 + e - c.2.1) * (n.1 - b.1)) ⟨S2, b0, none, c0, rfl, i0, mc0, fun c hc => by simp at hc⟩ (fun i σ H' _ q => SqL.of (q.1 _ _ hB)) ?_ ?_⟩
      · rintro i x σ H' hx ⟨S3, bv, y, b, rfl, ib, mb, hb⟩
        obtain ⟨c, hc, mc, ic⟩ := paired_mem hbs hx
        obtain ⟨ib0, pb, gb, rfl⟩ := bbot b mb
        obtain ⟨ic0, pc, gc, rfl⟩ := bbot c mc
        have mpb := List.mem_of_getElem? gb
        have mpc := List.mem_of_getElem? gc
        have ltb := hn pb mpb
        have ltc := hn pc mpc
        refine ⟨_, rfl, _, rfl, _, _, _, _, _, _, rfl, (IsTri.mono _ _ _ _ (sameT S3) ic).xy, ⟨tv, _, rfl, S3 _ _ hv, rfl, rfl⟩, fun a2 na2 => ?_⟩
        have S4 := sameU (o := .tup [.int (n.2 + e - (pc.2 - e)), .int (n.1 - pc.1)]) S3 na2
        refine ⟨_, rfl, _, rfl, _, _, _, _, _, _, rfl, (IsTri.mono _ _ _ _ (sameT S4) ib).xy, ⟨tv, _, rfl, S4 _ _ hv, rfl, rfl⟩, fun a3 na3 => ?_⟩
        have S5 := sameU (o := .tup [.int (n.2 + e - (pb.2 - e)), .int (n.1 - pb.1)]) S4 na3
        refine ⟨_, _, (n.2 + e - (pc.2 - e), n.1 - pc.1), (n.2 + e - (pb.2 - e), n.1 - pb.1), rfl, ⟨a2, rfl, same_upd na3 _ _ upd_same⟩, ⟨a3, rfl, upd_same⟩, sm_sub sn.1 (PK.sm pc mpc).1, sm_sub sn.1 (PK.sm pb mpb).1, _, rfl, ite2 (fun c1 => ?_) (fun c1 => ?_)⟩
        · have c1' : (n.2 + e - (pc.2 - e)) * (n.1 - pb.1) < (n.2 + e - (pb.2 - e)) * (n.1 - pc.1) := of_decide_eq_true c1
          refine ⟨_, rfl, S5, x, _, _, rfl, ic, mc, fun c' hc' => ?_⟩
          rw [take_get hc] at hc'
          rcases List.mem_append.mp hc' with q | q
          · have h1 := hb c' q
            obtain ⟨ic1, pc1, gc1, rfl⟩ := bbot c' (List.mem_of_mem_take q)
            have := hn pc1 (List.mem_of_getElem? gc1)
            exact ftrans (d := n.1 - pb.1) (c := n.2 + e - (pb.2 - e)) (by omega) (by show 0 ≤ n.1 - pc.1; omega) (by show 0 ≤ n.1 - pc1.1; omega) (Int.le_of_lt c1') h1
          · rw [List.mem_singleton.mp q]
            exact Int.le_refl _
        · have c1' : ¬ (n.2 + e - (pc.2 - e)) * (n.1 - pb.1) < (n.2 + e - (pb.2 - e)) * (n.1 - pc.1) := fun z => c1 (decide_eq_true z)
          refine ⟨S5, bv, _, _, rfl, ib, mb, fun c' hc' => ?_⟩
          rw [take_get hc] at hc'
          rcases List.mem_append.mp hc' with q | q
          · exact hb c' q
          · rw [List.mem_singleton.mp q]
            show (n.2 + e - (pb.2 - e)) * (n.1 - pc.1) ≤ (n.2 + e - (pc.2 - e)) * (n.1 - pb.1)
            omega
      · rintro σ H' ⟨S3, bv, y, b, rfl, ib, mb, hb⟩
        rw [hbs.length, List.take_length] at hb
        refine ⟨_, rfl, _, rfl, (by show 2 ≤ sizeLine; decide), fun t nt => ⟨_, rfl, f, CF, dx, _, rfl, sameU S3 nt _ _ hf, FC.cl, FC.steep, (by show 7 < 1000; decide), ?_⟩⟩
        have S4 := sameU (o := .tup [bv, .ref tv]) S3 nt
        have nft : f ≠ t := ne_of_none (S3 _ _ hf) nt
        rw [put_steep]
        obtain ⟨ib0, pb, gb, rfl⟩ := bbot b mb
        have mpb := List.mem_of_getElem? gb
        have keep : ∀ b' o, H b' = some o → b' ≠ f → (upd (upd H' t (.tup [bv, .ref tv])) f (.ins CF dx (fitF e m aP aT aB fv (.ref t)))) b' = some o := fun b' o q ne => by
          rw [upd_ne ne]
          exact S4 b' o q
        have tups : ∀ b' xs, H b' = some (.tup xs) → (upd (upd H' t (.tup [bv, .ref tv])) f (.ins CF dx (fitF e m aP aT aB fv (.ref t)))) b' = some (.tup xs) := fun b' xs q => keep b' _ q (ne_of q hf (by intro z; cases z))
        refine k _ (.ref t) keep upd_same ⟨t, bv, .ref tv, ib0, pts.length, pb, n, rfl, ?_, IsTri.mono _ _ _ _ tups ib, IsTri.mono _ _ _ _ tups ⟨tv, rfl, hv⟩, get_snoc gb, get_last, SO.turn hn mpb (fun p hp => ?_) (by grind)⟩
        · rw [upd_ne nft.symm]
          exact upd_same
        · obtain ⟨c, hc, hd⟩ := bdom (n.1 - 1) (fun q hq => by have := hn q hq; omega) (p.1, p.2 - e) (List.mem_map_of_mem hp) (n.1, n.2 + e) (by show n.1 - 1 < n.1; omega)
          have h1 := hb c hc
          obtain ⟨ic1, pc1, gc1, rfl⟩ := bbot c hc
          have := hn pc1 (List.mem_of_getElem? gc1)
          have := hn pb mpb
          have := hn p hp
          have h2 : (n.2 + e - (pc1.2 - e)) * (n.1 - p.1) ≤ (n.2 + e - (p.2 - e)) * (n.1 - pc1.1) := by
            have hd' : (-1 * (n.2 + e) - -1 * (p.2 - e)) * (n.1 - pc1.1) ≤ (-1 * (n.2 + e) - -1 * (pc1.2 - e)) * (n.1 - p.1) := hd
            grind
          have h3 := ftrans (d := n.1 - pc1.1) (c := n.2 + e - (pc1.2 - e)) (by omega) (by show 0 ≤ n.1 - pb.1; omega) (by show 0 ≤ n.1 - p.1; omega) h1 h2
          have h3' : (n.2 + e - (pb.2 - e)) * (n.1 - p.1) ≤ (n.2 + e - (p.2 - e)) * (n.1 - pb.1) := h3
          grind
end
end KW
namespace KW
open PySem PySem.Spec PyProof.Rows L2 KG
section
variable {P : Program} {w : World} {K : PySem.W.Frag} {mg : Str → Option Value} {base : Heap} {CF : Addr}
def spRaise (CF : Addr) : Sp := fun vs H Q _ => ∃ f v dx e m aP aT aB fv sv tops pts n, vs = [.ref f, v] ∧ H f = some (.ins CF dx (fitF e m aP aT aB fv sv)) ∧ LsOf IsTri H aT tops ∧ tops ≠ [] ∧ (∀ c ∈ tops, IsTop e pts c) ∧
  (∀ X, (∀ p ∈ pts, p.1 ≤ X) → Dom 1 (pts.map fun p => (p.1, p.2 + e)) tops X) ∧ FlatAt H e pts fv ∧ PtsOK e pts ∧ PairsOK e pts ∧ IsTri H v (n.1, n.2 - e, (pts.length : Int)) ∧ SmP n ∧ (∀ p ∈ pts, p.1 < n.1) ∧
  ∀ H' fv', (∀ b o, H b = some o → b ≠ f → H' b = some o) → H' f = some (.ins CF dx (fitF e m aP aT aB fv' sv)) → FlatAt H' e (pts ++ [n]) fv' → Q .non H'
abbrev s_Fitter_raise_flat : Stmt := inClass (topS 14) 5
abbrev N_Fitter_raise_flat : List Str := ["self", "bottom", "best", "corner"]
theorem sc_Fitter_raise_flat : FnScope N_Fitter_raise_flat ["self", "bottom"] (defScope s_Fitter_raise_flat) := ⟨rfl, rfl, rfl, by decide +kernel, rfl, by decide +kernel, by decide +kernel⟩
theorem bd_Fitter_raise_flat : BindsN "raise_flat" "Fitter.raise_flat" s_Fitter_raise_flat ["self", "bottom"] := fun _ _ _ _ _ _ us hl => match us, hl with | [_, _], _ => rfl
theorem ok_Fitter_raise_flat (T : Txt mg) (FC : FitC K CF) (D : MethAt K CF "raise_flat" "Fitter.raise_flat" s_Fitter_raise_flat) (c_is_below : Cal P w K mg base 1 "is_below" spBelow []) (c_rise_over : Cal P w K mg base 1 "rise_over" spRise []) : C8.Met P w K mg base 2 CF "raise_flat" (spRaise CF) [] := by
  refine met_of FC.cl D sc_Fitter_raise_flat bd_Fitter_raise_flat (fun vs H Q E h => ?_) (fun f cdv A outer s H vs Q E hr h => ?_)
  · obtain ⟨f, v, dx, e, m, aP, aT, aB, fv, sv, bots, pts, n, rfl, _⟩ := h
    rfl
  · obtain ⟨f, v, dx, e, m, aP, aT, aB, fv, sv, tops, pts, n, rfl, hf, ⟨bs, hB, hbs⟩, bne, bbot, bdom, SA, PK, PR, ⟨tv, rfl, hv⟩, sn, hn, k⟩ := h
    have J := PK.asc.inj
    have he := PK.he
    obtain ⟨ts, w1, w2, j1, j2, q1, q2, rfl, hs, ⟨s1, rfl, h3⟩, ⟨s2, rfl, h4⟩, g3, g4, SO⟩ := id SA
    have m3 := PK.sm q1 SO.mf
    have m4 := PK.sm q2 SO.mg
    refine ⟨_, (pss_cons (ps_if (pt_not (pt_val (C8.pe_c c_is_below hr (by decide) (by rfl) (pa_cons (C8.pe_c c_rise_over hr (by decide) (by rfl) (pa_cons (pe_ix ix_tup (pe_fld (pv 0) rfl) pe_int (fun _ _ => rfl)) (pa_cons (pe_ix ix_tup (pe_fld (pv 0) rfl) pe_int (fun _ _ => rfl)) pa_nil))) (pa_cons (C8.pe_c c_rise_over hr (by decide) (by rfl) (pa_cons (pe_ix ix_tup (pe_fld (pv 0) rfl) pe_int (fun _ _ => rfl)) (pa_cons (pv 1) pa_nil))) pa_nil))))) (pss_one ps_retN) pss_nil)
      (pss_cons (ps_set (i := 2) sc_Fitter_raise_flat.nd rfl (.inl rfl) (pe_ix ix_list (pe_fld (pv 0) rfl) pe_int (fun _ _ => rfl)))
      (pss_cons (ps_for PassesOwn.never rfl (pi_list (pe_fld (pv 0) rfl)) (pg_name (i := 3) sc_Fitter_raise_flat.nd rfl (.inl rfl)) (pss_one (ps_if (pt_val (C8.pe_c c_is_below hr (by decide) (by rfl) (pa_cons (C8.pe_c c_rise_over hr (by decide) (by rfl) (pa_cons (pv 2) (pa_cons (pv 1) pa_nil))) (pa_cons (C8.pe_c c_rise_over hr (by decide) (by rfl) (pa_cons (pv 3) (pa_cons (pv 1) pa_nil))) pa_nil)))) (pss_one (ps_set (i := 2) sc_Fitter_raise_flat.nd rfl (.inl rfl) (pv 3))) pss_nil)))
      (pss_one (ps_fld (pv 0) (pe_tup (pa_cons (pv 2) (pa_cons (pv 1) pa_nil))) rfl))))), ?_⟩
    refine ⟨_, rfl, _, _, _, _, _, rfl, hf, FC.cl, FC.flat, rfl, _, _, _, _, rfl, rfl, SqT.of hs, rfl, _, rfl, _, _, _, _, _, rfl, hf, FC.cl, FC.flat, rfl, _, _, _, _, rfl, rfl, SqT.of hs, rfl, ?_⟩
    refine ⟨_, _, q1.1, q1.2 + e, q2.1, q2.2 - e, rfl, ⟨s1, _, rfl, h3, rfl, rfl⟩, ⟨s2, _, rfl, h4, rfl, rfl⟩, fun b nb => ?_⟩
    have S1 := same_upd (o := .tup [.int (q2.2 - e - (q1.2 + e)), .int (q2.1 - q1.1)]) nb
    refine ⟨_, rfl, _, _, _, _, _, rfl, S1 _ _ hf, FC.cl, FC.flat, rfl, _, _, _, _, rfl, rfl, SqT.of (S1 _ _ hs), rfl, _, rfl, _, _, q1.1, q1.2 + e, n.1, n.2 - e, rfl, ⟨s1, _, rfl, S1 _ _ h3, rfl, rfl⟩, ⟨tv, _, rfl, S1 _ _ hv, rfl, rfl⟩, fun a na => ?_⟩
    have S2 := sameU (o := .tup [.int (n.2 - e - (q1.2 + e)), .int (n.1 - q1.1)]) S1 na
    refine ⟨_, _, (q2.2 - e - (q1.2 + e), q2.1 - q1.1), (n.2 - e - (q1.2 + e), n.1 - q1.1), rfl, ⟨b, rfl, same_upd na _ _ upd_same⟩, ⟨a, rfl, upd_same⟩, sm_sub m4.1 m3.1, sm_sub sn.1 m3.1, _, rfl, ite2 (fun c => ?_) (fun c => ?_)⟩
    · have c' : ¬ (q2.2 - e - (q1.2 + e)) * (n.1 - q1.1) < (n.2 - e - (q1.2 + e)) * (q2.1 - q1.1) := by simpa using c
      refine k _ _ (fun b o q _ => S2 b o q) (S2 _ _ hf) ?_
      exact ⟨ts, _, _, j1, j2, q1, q2, rfl, S2 _ _ hs, ⟨s1, rfl, S2 _ _ h3⟩, ⟨s2, rfl, S2 _ _ h4⟩, get_snoc g3, get_snoc g4, SO.keep PR J he hn (by grind)⟩
    · have c' : (q2.2 - e - (q1.2 + e)) * (n.1 - q1.1) < (n.2 - e - (q1.2 + e)) * (q2.1 - q1.1) := by simpa using c
      obtain ⟨b0, bs', rfl⟩ : ∃ b0 bs', bs = b0 :: bs' := by
        cases bs with
        | nil => cases hbs; exact absurd rfl bne
        | cons x r => exact ⟨x, r, rfl⟩
      obtain ⟨c0, hc0, mc0, i0⟩ := paired_mem (i := 0) hbs rfl
      refine ⟨_, rfl, _, _, _, _, _, rfl, S2 _ _ hf, FC.cl, FC.tops, rfl, _, _, _, _, rfl, rfl, SqL.of (S2 _ _ hB), atI_nat (j := 0) rfl, ?_⟩
      refine ⟨_, rfl, _, _, _, _, _, rfl, S2 _ _ hf, FC.cl, FC.tops, rfl, aT, rfl, ⟨_, SqL.of (S2 _ _ hB)⟩, for_list (K := K) (a := aT) (xs := b0 :: bs') (fun i σ H' => Same H H' ∧ ∃ bv y b, σ = [some (.ref f), some (.ref tv), some bv, y] ∧ IsTri H bv b ∧ b ∈ tops ∧
        ∀ c ∈ tops.take i, (n.2 - e - c.2.1) * (n.1 - b.1) ≤ (n.2 - e - b.2.1) * (n.1 - c.1)) ⟨S2, b0, none, c0, rfl, i0, mc0, fun c hc => by simp at hc⟩ (fun i σ H' _ q => SqL.of (q.1 _ _ hB)) ?_ ?_⟩
      · rintro i x σ H' hx ⟨S3, bv, y, b, rfl, ib, mb, hb⟩
        obtain ⟨c, hc, mc, ic⟩ := paired_mem hbs hx
        obtain ⟨ib0, pb, gb, rfl⟩ := bbot b mb
        obtain ⟨ic0, pc, gc, rfl⟩ := bbot c mc
        have mpb := List.mem_of_getElem? gb
        have mpc := List.mem_of_getElem? gc
        have ltb := hn pb mpb
        have ltc := hn pc mpc
        refine ⟨_, rfl, _, rfl, _, _, _, _, _, _, rfl, (IsTri.mono _ _ _ _ (sameT S3) ib).xy, ⟨tv, _, rfl, S3 _ _ hv, rfl, rfl⟩, fun a3 na3 => ?_⟩
        have S4 := sameU (o := .tup [.int (n.2 - e - (pb.2 + e)), .int (n.1 - pb.1)]) S3 na3
        refine ⟨_, rfl, _, rfl, _, _, _, _, _, _, rfl, (IsTri.mono _ _ _ _ (sameT S4) ic).xy, ⟨tv, _, rfl, S4 _ _ hv, rfl, rfl⟩, fun a2 na2 => ?_⟩
        have S5 := sameU (o := .tup [.int (n.2 - e - (pc.2 + e)), .int (n.1 - pc.1)]) S4 na2
        refine ⟨_, _, (n.2 - e - (pb.2 + e), n.1 - pb.1), (n.2 - e - (pc.2 + e), n.1 - pc.1), rfl, ⟨a3, rfl, same_upd na2 _ _ upd_same⟩, ⟨a2, rfl, upd_same⟩, sm_sub sn.1 (PK.sm pb mpb).1, sm_sub sn.1 (PK.sm pc mpc).1, _, rfl, ite2 (fun c1 => ?_) (fun c1 => ?_)⟩
        · have c1' : (n.2 - e - (pb.2 + e)) * (n.1 - pc.1) < (n.2 - e - (pc.2 + e)) * (n.1 - pb.1) := of_decide_eq_true c1
          refine ⟨_, rfl, S5, x, _, _, rfl, ic, mc, fun c' hc' => ?_⟩
          rw [take_get hc] at hc'
          rcases List.mem_append.mp hc' with q | q
          · have h1 := hb c' q
            obtain ⟨ic1, pc1, gc1, rfl⟩ := bbot c' (List.mem_of_mem_take q)
            have := hn pc1 (List.mem_of_getElem? gc1)
            exact ftrans (d := n.1 - pb.1) (c := n.2 - e - (pb.2 + e)) (by omega) (by show 0 ≤ n.1 - pc1.1; omega) (by show 0 ≤ n.1 - pc.1; omega) h1 (Int.le_of_lt c1')
          · rw [List.mem_singleton.mp q]
            exact Int.le_refl _
        · have c1' : ¬ (n.2 - e - (pb.2 + e)) * (n.1 - pc.1) < (n.2 - e - (pc.2 + e)) * (n.1 - pb.1) := fun z => c1 (decide_eq_true z)
          refine ⟨S5, bv, _, _, rfl, ib, mb, fun c' hc' => ?_⟩
          rw [take_get hc] at hc'
          rcases List.mem_append.mp hc' with q | q
          · exact hb c' q
          · rw [List.mem_singleton.mp q]
            show (n.2 - e - (pc.2 + e)) * (n.1 - pb.1) ≤ (n.2 - e - (pb.2 + e)) * (n.1 - pc.1)
            omega
      · rintro σ H' ⟨S3, bv, y, b, rfl, ib, mb, hb⟩
        rw [hbs.length, List.take_length] at hb
        refine ⟨_, rfl, _, rfl, (by show 2 ≤ sizeLine; decide), fun t nt => ⟨_, rfl, f, CF, dx, _, rfl, sameU S3 nt _ _ hf, FC.cl, FC.flat, (by show 7 < 1000; decide), ?_⟩⟩
        have S4 := sameU (o := .tup [bv, .ref tv]) S3 nt
        have nft : f ≠ t := ne_of_none (S3 _ _ hf) nt
        rw [put_flat]
        obtain ⟨ib0, pb, gb, rfl⟩ := bbot b mb
        have mpb := List.mem_of_getElem? gb
        have keep : ∀ b' o, H b' = some o → b' ≠ f → (upd (upd H' t (.tup [bv, .ref tv])) f (.ins CF dx (fitF e m aP aT aB (.ref t) sv))) b' = some o := fun b' o q ne => by
          rw [upd_ne ne]
          exact S4 b' o q
        have tups : ∀ b' xs, H b' = some (.tup xs) → (upd (upd H' t (.tup [bv, .ref tv])) f (.ins CF dx (fitF e m aP aT aB (.ref t) sv))) b' = some (.tup xs) := fun b' xs q => keep b' _ q (ne_of q hf (by intro z; cases z))
        refine k _ (.ref t) keep upd_same ⟨t, bv, .ref tv, ib0, pts.length, pb, n, rfl, ?_, IsTri.mono _ _ _ _ tups ib, IsTri.mono _ _ _ _ tups ⟨tv, rfl, hv⟩, get_snoc gb, get_last, SO.turn hn mpb (fun p hp => ?_) (by grind)⟩
        · rw [upd_ne nft.symm]
          exact upd_same
        · obtain ⟨c, hc, hd⟩ := bdom (n.1 - 1) (fun q hq => by have := hn q hq; omega) (p.1, p.2 + e) (List.mem_map_of_mem hp) (n.1, n.2 - e) (by show n.1 - 1 < n.1; omega)
          have h1 := hb c hc
          obtain ⟨ic1, pc1, gc1, rfl⟩ := bbot c hc
          have := hn pc1 (List.mem_of_getElem? gc1)
          have := hn pb mpb
          have := hn p hp
          have h2 : (n.2 - e - (p.2 + e)) * (n.1 - pc1.1) ≤ (n.2 - e - (pc1.2 + e)) * (n.1 - p.1) := by
            have hd' : (1 * (n.2 - e) - 1 * (p.2 + e)) * (n.1 - pc1.1) ≤ (1 * (n.2 - e) - 1 * (pc1.2 + e)) * (n.1 - p.1) := hd
            grind
          have h3 := ftrans (d := n.1 - pc1.1) (c := n.2 - e - (pc1.2 + e)) (by omega) (by show 0 ≤ n.1 - p.1; omega) (by show 0 ≤ n.1 - pb.1; omega) h2 h1
          have h3' : (n.2 - e - (p.2 + e)) * (n.1 - pb.1) ≤ (n.2 - e - (pb.2 + e)) * (n.1 - p.1) := h3
          grind
end
end KW
namespace KW
open PySem PySem.Spec PyProof.Rows L2 KG
theorem at_neg {α : Type} {xs : List α} {k : Nat} {v : α} (h1 : 1 ≤ k) (h2 : k ≤ xs.length) (h : xs[xs.length - k]? = some v) : atI xs (-(k : Int)) = some v := by
  have e : ixN xs.length (-(k : Int)) = some (xs.length - k) := by
    unfold ixN
    rw [if_neg (by omega), if_pos (by omega)]
    congr 1
    omega
  unfold atI
  rw [e]
  exact h
/-- a hull while its corners are popped -/
structure HullW (H : Hp) (a : Addr) (ts : List V) (cs : List L3) (s : Int) (ps : List P2) (t : L3) (s0 : L2.St) (l : Nat) (st : L2.St) (H' : Hp) : Prop where
  st : st = s0
  le : l ≤ cs.length
  ne : cs ≠ [] → 1 ≤ l
  lst : H' a = some (.lst (ts.take l))
  keep : ∀ b o, H b = some o → b ≠ a → H' b = some o
  dom : Dom s ps (cs.take l ++ [t]) t.1
theorem take_two {α : Type} {l : List α} {n : Nat} {x y : α} (h1 : l[n]? = some x) (h2 : l[n + 1]? = some y) : l.take (n + 2) = l.take n ++ [x, y] := by
  rw [List.take_add_one, List.take_add_one, h1, h2]
  simp
theorem HullW.pop {H H' : Hp} {a : Addr} {ts : List V} {cs : List L3} {s : Int} {ps : List P2} {t : L3} {s0 st : L2.St} {l : Nat} (W : HullW H a ts cs s ps t s0 (l + 2) st H') (hl : ts.length = cs.length) {x y : L3} (hx : cs[l]? = some x) (hy : cs[l + 1]? = some y)
    (hab : x.1 < y.1) (hbt : y.1 < t.1) (hps : ∀ p ∈ ps, p.1 ≤ t.1) (ht : (y.1 - x.1) * (s * t.2.1 - s * x.2.1) - (s * y.2.1 - s * x.2.1) * (t.1 - x.1) ≤ 0) :
    HullW H a ts cs s ps t s0 (l + 1) st (upd H' a (.lst ((ts.take (l + 2)).dropLast))) := by
  have hle := W.le
  refine ⟨W.st, by omega, fun _ => by omega, ?_, fun b o q ne => ?_, ?_⟩
  · rw [upd_same, List.dropLast_eq_take, List.length_take, List.take_take, show min (min (l + 2) ts.length - 1) (l + 2) = l + 1 by omega]
  · rw [upd_ne ne]
    exact W.keep b o q ne
  · have d := W.dom
    rw [take_two hx hy] at d
    have := dom_pop d hab hbt (Int.le_refl _) hps ht
    rw [List.take_add_one, hx]
    exact this
section
variable {P : Program} {w : World} {K : PySem.W.Frag} {mg : Str → Option Value} {base : Heap} {CF : Addr}
theorem dom_more {s : Int} {ps : List P2} {cs ds : List L3} {X : Int} (h : Dom s ps cs X) (hs : ∀ c ∈ cs, c ∈ ds) : Dom s ps ds X := fun p hp z hz => by
  obtain ⟨c, hc, hd⟩ := h p hp z hz
  exact ⟨c, hs c hc, hd⟩
def spCorners (CF : Addr) : Sp := fun vs H Q _ => ∃ f vt vb dx e m aP aT aB fv sv tops bots pts n, vs = [.ref f, vt, vb] ∧ H f = some (.ins CF dx (fitF e m aP aT aB fv sv)) ∧ LsOf IsTri H aT tops ∧ LsOf IsTri H aB bots ∧ aT ≠ aB ∧ HullOK e pts tops bots ∧ PtsOK e (pts ++ [n]) ∧
  IsTri H vt (n.1, n.2 + e, (pts.length : Int)) ∧ IsTri H vb (n.1, n.2 - e, (pts.length : Int)) ∧
  ∀ H' tops' bots', (∀ b o, H b = some o → b ≠ aT → b ≠ aB → H' b = some o) → LsOf IsTri H' aT tops' → LsOf IsTri H' aB bots' → HullOK e (pts ++ [n]) tops' bots' → Q .non H'
theorem PtsOK.old {e : Int} {pts : List P2} {n : P2} (h : PtsOK e (pts ++ [n])) : PtsOK e pts ∧ (∀ p ∈ pts, p.1 < n.1) ∧ SmP n := by
  obtain ⟨h1, h2⟩ := asc_snoc.mp h.asc
  have := h.len
  rw [List.length_append] at this
  exact ⟨⟨h1, fun p hp => h.sm p (memL hp), h.se, h.he, by omega⟩, h2, h.sm n memN⟩
theorem hull_new {e : Int} {pts : List P2} {n : P2} {tops bots : List L3} {l l' : Nat} (U : HullOK e pts tops bots) (hn : ∀ p ∈ pts, p.1 < n.1) (h1 : Dom 1 (pts.map fun p => (p.1, p.2 + e)) (tops.take l ++ [(n.1, n.2 + e, (pts.length : Int))]) n.1)
    (h2 : Dom (-1) (pts.map fun p => (p.1, p.2 - e)) (bots.take l' ++ [(n.1, n.2 - e, (pts.length : Int))]) n.1) : HullOK e (pts ++ [n]) (tops.take l ++ [(n.1, n.2 + e, (pts.length : Int))]) (bots.take l' ++ [(n.1, n.2 - e, (pts.length : Int))]) := by
  refine ⟨fun c hc => ?_, fun c hc => ?_, ?_, ?_, fun _ => by simp, fun _ => by simp, ?_, ?_, fun X hX => ?_, fun X hX => ?_⟩
  · rcases List.mem_append.mp hc with q | q
    · obtain ⟨i, p, hi, e1⟩ := U.tw c (List.mem_of_mem_take q)
      exact ⟨i, p, get_snoc hi, e1⟩
    · exact ⟨pts.length, n, get_last, List.mem_singleton.mp q⟩
  · rcases List.mem_append.mp hc with q | q
    · obtain ⟨i, p, hi, e1⟩ := U.bw c (List.mem_of_mem_take q)
      exact ⟨i, p, get_snoc hi, e1⟩
    · exact ⟨pts.length, n, get_last, List.mem_singleton.mp q⟩
  · rw [List.pairwise_append]
    refine ⟨U.ta.sublist (List.take_sublist _ _), by simp, fun a ha b hb => ?_⟩
    rw [List.mem_singleton.mp hb]
    obtain ⟨i, p, hi, rfl⟩ := U.tw a (List.mem_of_mem_take ha)
    exact hn p (List.mem_of_getElem? hi)
  · rw [List.pairwise_append]
    refine ⟨U.ba.sublist (List.take_sublist _ _), by simp, fun a ha b hb => ?_⟩
    rw [List.mem_singleton.mp hb]
    obtain ⟨i, p, hi, rfl⟩ := U.bw a (List.mem_of_mem_take ha)
    exact hn p (List.mem_of_getElem? hi)
  · have := U.tl
    rw [List.length_append, List.length_append, List.length_take, List.length_singleton, List.length_singleton]
    omega
  · have := U.bl
    rw [List.length_append, List.length_append, List.length_take, List.length_singleton, List.length_singleton]
    omega
  · have hnX := hX n memN
    rw [List.map_append]
    intro p hp z hz
    rcases List.mem_append.mp hp with q | q
    · exact h1 p q z (by omega)
    · rw [List.mem_singleton.mp q]
      exact ⟨(n.1, n.2 + e, (pts.length : Int)), by simp, Int.le_refl _⟩
  · have hnX := hX n memN
    rw [List.map_append]
    intro p hp z hz
    rcases List.mem_append.mp hp with q | q
    · exact h2 p q z (by omega)
    · rw [List.mem_singleton.mp q]
      exact ⟨(n.1, n.2 - e, (pts.length : Int)), by simp, Int.le_refl _⟩
abbrev s_Fitter_add_corners : Stmt := inClass (topS 14) 3
abbrev N_Fitter_add_corners : List Str := ["self", "top", "bottom"]
theorem sc_Fitter_add_corners : FnScope N_Fitter_add_corners ["self", "top", "bottom"] (defScope s_Fitter_add_corners) := ⟨rfl, rfl, rfl, by decide +kernel, rfl, by decide +kernel, by decide +kernel⟩
theorem bd_Fitter_add_corners : BindsN "add_corners" "Fitter.add_corners" s_Fitter_add_corners ["self", "top", "bottom"] := fun _ _ _ _ _ _ us hl => match us, hl with | [_, _, _], _ => rfl
theorem ok_Fitter_add_corners (T : Txt mg) (FC : FitC K CF) (D : MethAt K CF "add_corners" "Fitter.add_corners" s_Fitter_add_corners) (c_turn : Cal P w K mg base 1 "turn" spTurn []) : C8.Met P w K mg base 2 CF "add_corners" (spCorners CF) [] := by
  refine met_of FC.cl D sc_Fitter_add_corners bd_Fitter_add_corners (fun vs H Q E h => ?_) (fun f cdv A outer s H vs Q E hr h => ?_)
  · obtain ⟨f, vt, vb, dx, e, m, aP, aT, aB, fv, sv, tops, bots, pts, n, rfl, _⟩ := h
    rfl
  · obtain ⟨f, vt, vb, dx, e, m, aP, aT, aB, fv, sv, tops, bots, pts, n, rfl, hf, ⟨ts, hT, hts⟩, ⟨bs, hB, hbs⟩, nTB, U, PN, it, ib, k⟩ := h
    obtain ⟨PK, hn, sn⟩ := PN.old
    have lT : ts.length = tops.length := hts.length
    have lB : bs.length = bots.length := hbs.length
    have nfT : f ≠ aT := ne_of hf hT (by intro z; cases z)
    have nfB : f ≠ aB := ne_of hf hB (by intro z; cases z)
    have sh : ∀ {p q : P2}, p ∈ pts → q ∈ pts → Md (p.1 - q.1) ∧ Md (p.2 + e - (q.2 + e)) ∧ Md (p.2 - e - (q.2 - e)) := fun {p q} hp hq => by
      have a1 := PK.sm p hp
      have a2 := PK.sm q hq
      refine ⟨sm_sub a1.1 a2.1, ?_, ?_⟩
      · have := sm_sub a1.2 a2.2
        unfold Md at *
        omega
      · have := sm_sub a1.2 a2.2
        unfold Md at *
        omega
    refine ⟨_, (C8.pss_cut (ps_while PassesOwn.never (PW.pt (pw_and (pt_cmpR op_gt (pe_callB call_len_seq (by rfl) T.len (by decide +kernel) (pa_cons (pe_fld (pv 0) rfl) pa_nil)) pe_int (nomark _)) (pw_and1 (pt_cmpR op_le (C8.pe_c c_turn hr (by decide) (by rfl) (pa_cons (pe_ix ix_list (pe_fld (pv 0) rfl) (pe_un un_neg pe_int) (fun _ _ => rfl)) (pa_cons (pe_ix ix_list (pe_fld (pv 0) rfl) (pe_un un_neg pe_int) (fun _ _ => rfl)) (pa_cons (pv 1) pa_nil)))) pe_int (nomark _))))) (pss_one (ps_expr (pe_bm0 PySem.F.plainAttrs_list PySem.F.slot_list_pop PySem.F.type_list_pop mt_pop (pe_fld (pv 0) rfl)))))
      (pss_cons (ps_expr (pe_bm PySem.F.plainAttrs_list PySem.F.slot_list_append PySem.F.type_list_append mt_append (pe_fld (pv 0) rfl) (pa_cons (pv 1) pa_nil)))
      (C8.pss_cut (ps_while PassesOwn.never (PW.pt (pw_and (pt_cmpR op_gt (pe_callB call_len_seq (by rfl) T.len (by decide +kernel) (pa_cons (pe_fld (pv 0) rfl) pa_nil)) pe_int (nomark _)) (pw_and1 (pt_cmpR op_ge (C8.pe_c c_turn hr (by decide) (by rfl) (pa_cons (pe_ix ix_list (pe_fld (pv 0) rfl) (pe_un un_neg pe_int) (fun _ _ => rfl)) (pa_cons (pe_ix ix_list (pe_fld (pv 0) rfl) (pe_un un_neg pe_int) (fun _ _ => rfl)) (pa_cons (pv 2) pa_nil)))) pe_int (nomark _))))) (pss_one (ps_expr (pe_bm0 PySem.F.plainAttrs_list PySem.F.slot_list_pop PySem.F.type_list_pop mt_pop (pe_fld (pv 0) rfl)))))
      (pss_one (ps_expr (pe_bm PySem.F.plainAttrs_list PySem.F.slot_list_append PySem.F.type_list_append mt_append (pe_fld (pv 0) rfl) (pa_cons (pv 2) pa_nil))))))), ?_⟩
    refine ⟨fun st H' => ∃ l, HullW H aT ts tops 1 (pts.map fun p => (p.1, p.2 + e)) (n.1, n.2 + e, (pts.length : Int)) [some (.ref f), some vt, some vb] l st H',
      ⟨HullW H aT ts tops 1 (pts.map fun p => (p.1, p.2 + e)) (n.1, n.2 + e, (pts.length : Int)) [some (.ref f), some vt, some vb], ⟨tops.length, rfl, Nat.le_refl _, fun h => List.length_pos_iff.mpr h, by rw [← lT, List.take_length]; exact hT, fun b o q _ => q, ?_⟩, fun l st H' W => ?_⟩, ?_⟩
    · rw [List.take_length]
      exact dom_more (U.td n.1 (fun p hp => Int.le_of_lt (hn p hp))) (fun c hc => List.mem_append_left _ hc)
    · obtain rfl := W.st
      have ll : (ts.take l).length = l := by
        rw [List.length_take]
        have := W.le
        omega
      refine ⟨_, rfl, _, _, _, _, _, rfl, W.keep _ _ hf nfT, FC.cl, FC.tops, rfl, _, _, rfl, .inl (SqL.of W.lst), _, _, rfl, rfl, _, rfl, ite2 (fun c => ?_) (fun c => ⟨l, W⟩)⟩
      have c1 : 1 < ((ts.take l).length : Int) := of_decide_eq_true c
      rw [ll] at c1
      obtain ⟨l, rfl⟩ : ∃ l', l = l' + 2 := ⟨l - 2, by omega⟩
      have hle := W.le
      obtain ⟨x, hx⟩ : ∃ x, tops[l]? = some x := ⟨_, List.getElem?_eq_getElem (by omega)⟩
      obtain ⟨y, hy⟩ : ∃ y, tops[l + 1]? = some y := ⟨_, List.getElem?_eq_getElem (by omega)⟩
      obtain ⟨vx, gx, ix⟩ := paired_get' hts hx
      obtain ⟨vy, gy, iy⟩ := paired_get' hts hy
      obtain ⟨i1, p1, a1, rfl⟩ := U.tw x (List.mem_of_getElem? hx)
      obtain ⟨i2, p2, a2, rfl⟩ := U.tw y (List.mem_of_getElem? hy)
      have tr : ∀ b xs, H b = some (.tup xs) → H' b = some (.tup xs) := fun b xs q => W.keep b _ q (ne_of q hT (by intro z; cases z))
      have mm := sh (List.mem_of_getElem? a2) (List.mem_of_getElem? a1)
      refine ⟨_, rfl, _, _, _, _, _, rfl, W.keep _ _ hf nfT, FC.cl, FC.tops, rfl, _, rfl, _, _, _, _, rfl, rfl, SqL.of W.lst, at_neg (k := 2) (by omega) (by omega) (by rw [ll, List.getElem?_take, if_pos (by omega)]; exact gx), ?_⟩
      refine ⟨_, rfl, _, _, _, _, _, rfl, W.keep _ _ hf nfT, FC.cl, FC.tops, rfl, _, rfl, _, _, _, _, rfl, rfl, SqL.of W.lst, at_neg (k := 1) (by omega) (by omega) (by rw [ll, List.getElem?_take, if_pos (by omega)]; exact gy), ?_⟩
      refine ⟨_, rfl, _, _, _, _, _, _, _, _, _, rfl, (IsTri.mono _ _ _ _ tr ix).xy, (IsTri.mono _ _ _ _ tr iy).xy, (IsTri.mono _ _ _ _ tr it).xy, mm.1, mm.2.1, _, _, rfl, rfl, _, rfl, ite2 (fun c2 => ?_) (fun c2 => ⟨_, W⟩)⟩
      have c2' : (p2.1 - p1.1) * (n.2 + e - (p1.2 + e)) - (p2.2 + e - (p1.2 + e)) * (n.1 - p1.1) ≤ 0 := of_decide_eq_true c2
      refine ⟨HullW H aT ts tops 1 (pts.map fun p => (p.1, p.2 + e)) (n.1, n.2 + e, (pts.length : Int)) [some (.ref f), some vt, some vb] (l + 1), fun st' H2 h2 => ⟨l + 1, by omega, h2⟩, ?_⟩
      refine ⟨_, rfl, _, _, _, _, _, rfl, W.keep _ _ hf nfT, FC.cl, FC.tops, rfl, .inl ⟨rfl, _, SqL.of W.lst⟩, aT, ts.take (l + 2), vy, rfl, rfl, W.lst, (by rw [ll, List.getElem?_take, if_pos (by omega)]; exact gy), ?_⟩
      exact W.pop lT hx hy (List.pairwise_iff_getElem.mp U.ta l (l + 1) (by omega) (by omega) (by omega) |> fun z => by
          rw [(List.getElem?_eq_some_iff.mp hx).2, (List.getElem?_eq_some_iff.mp hy).2] at z
          exact z) (hn p2 (List.mem_of_getElem? a2)) (fun p hp => by
          obtain ⟨q, hq, rfl⟩ := List.mem_map.mp hp
          exact Int.le_of_lt (hn q hq)) (by
          show (p2.1 - p1.1) * (1 * (n.2 + e) - 1 * (p1.2 + e)) - (1 * (p2.2 + e) - 1 * (p1.2 + e)) * (n.1 - p1.1) ≤ 0
          grind)
    · rintro σ1 H1 ⟨l, W⟩
      obtain rfl := W.st
      have hle := W.le
      have ll : (ts.take l).length = l := by
        rw [List.length_take]
        omega
      refine ⟨_, rfl, _, _, _, _, _, rfl, W.keep _ _ hf nfT, FC.cl, FC.tops, rfl, .inl ⟨rfl, _, SqL.of W.lst⟩, _, rfl, aT, ts.take l, vt, rfl, rfl, W.lst, small1000 (by have := U.tl; have := PK.len; omega), ?_⟩
      have hT2 : upd H1 aT (.lst (ts.take l ++ [vt])) aT = some (.lst (ts.take l ++ [vt])) := upd_same
      have kT : ∀ b o, H b = some o → b ≠ aT → upd H1 aT (.lst (ts.take l ++ [vt])) b = some o := fun b o q ne => by
        rw [upd_ne ne]
        exact W.keep b o q ne
      generalize upd H1 aT (.lst (ts.take l ++ [vt])) = G at hT2 kT
      have hB2 : G aB = some (.lst bs) := kT _ _ hB nTB.symm
      refine ⟨fun st H' => ∃ l', HullW G aB bs bots (-1) (pts.map fun p => (p.1, p.2 - e)) (n.1, n.2 - e, (pts.length : Int)) [some (.ref f), some vt, some vb] l' st H',
        ⟨HullW G aB bs bots (-1) (pts.map fun p => (p.1, p.2 - e)) (n.1, n.2 - e, (pts.length : Int)) [some (.ref f), some vt, some vb], ⟨bots.length, rfl, Nat.le_refl _, fun h => List.length_pos_iff.mpr h, by rw [← lB, List.take_length]; exact hB2, fun b o q _ => q, ?_⟩, fun l' st H' W' => ?_⟩, ?_⟩
      · rw [List.take_length]
        exact dom_more (U.bd n.1 (fun p hp => Int.le_of_lt (hn p hp))) (fun c hc => List.mem_append_left _ hc)
      · obtain rfl := W'.st
        have ll' : (bs.take l').length = l' := by
          rw [List.length_take]
          have := W'.le
          omega
        have hf2 : H' f = some (.ins CF dx (fitF e m aP aT aB fv sv)) := W'.keep _ _ (kT _ _ hf nfT) nfB
        refine ⟨_, rfl, _, _, _, _, _, rfl, hf2, FC.cl, FC.bottoms, rfl, _, _, rfl, .inl (SqL.of W'.lst), _, _, rfl, rfl, _, rfl, ite2 (fun c => ?_) (fun c => ⟨l', W'⟩)⟩
        have c1 : 1 < ((bs.take l').length : Int) := of_decide_eq_true c
        rw [ll'] at c1
        obtain ⟨l', rfl⟩ : ∃ l2, l' = l2 + 2 := ⟨l' - 2, by omega⟩
        have hle' := W'.le
        obtain ⟨x, hx⟩ : ∃ x, bots[l']? = some x := ⟨_, List.getElem?_eq_getElem (by omega)⟩
        obtain ⟨y, hy⟩ : ∃ y, bots[l' + 1]? = some y := ⟨_, List.getElem?_eq_getElem (by omega)⟩
        obtain ⟨vx, gx, ix⟩ := paired_get' hbs hx
        obtain ⟨vy, gy, iy⟩ := paired_get' hbs hy
        obtain ⟨i1, p1, a1, rfl⟩ := U.bw x (List.mem_of_getElem? hx)
        obtain ⟨i2, p2, a2, rfl⟩ := U.bw y (List.mem_of_getElem? hy)
        have tr : ∀ b xs, H b = some (.tup xs) → H' b = some (.tup xs) := fun b xs q => W'.keep b _ (kT b _ q (ne_of q hT (by intro z; cases z))) (ne_of q hB (by intro z; cases z))
        have mm := sh (List.mem_of_getElem? a2) (List.mem_of_getElem? a1)
        refine ⟨_, rfl, _, _, _, _, _, rfl, hf2, FC.cl, FC.bottoms, rfl, _, rfl, _, _, _, _, rfl, rfl, SqL.of W'.lst, at_neg (k := 2) (by omega) (by omega) (by rw [ll', List.getElem?_take, if_pos (by omega)]; exact gx), ?_⟩
        refine ⟨_, rfl, _, _, _, _, _, rfl, hf2, FC.cl, FC.bottoms, rfl, _, rfl, _, _, _, _, rfl, rfl, SqL.of W'.lst, at_neg (k := 1) (by omega) (by omega) (by rw [ll', List.getElem?_take, if_pos (by omega)]; exact gy), ?_⟩
        refine ⟨_, rfl, _, _, _, _, _, _, _, _, _, rfl, (IsTri.mono _ _ _ _ tr ix).xy, (IsTri.mono _ _ _ _ tr iy).xy, (IsTri.mono _ _ _ _ tr ib).xy, mm.1, mm.2.2, _, _, rfl, rfl, _, rfl, ite2 (fun c2 => ?_) (fun c2 => ⟨_, W'⟩)⟩
        have c2' : 0 ≤ (p2.1 - p1.1) * (n.2 - e - (p1.2 - e)) - (p2.2 - e - (p1.2 - e)) * (n.1 - p1.1) := of_decide_eq_true c2
        refine ⟨HullW G aB bs bots (-1) (pts.map fun p => (p.1, p.2 - e)) (n.1, n.2 - e, (pts.length : Int)) [some (.ref f), some vt, some vb] (l' + 1), fun st' H2 h2 => ⟨l' + 1, by omega, h2⟩, ?_⟩
        refine ⟨_, rfl, _, _, _, _, _, rfl, hf2, FC.cl, FC.bottoms, rfl, .inl ⟨rfl, _, SqL.of W'.lst⟩, aB, bs.take (l' + 2), vy, rfl, rfl, W'.lst, (by rw [ll', List.getElem?_take, if_pos (by omega)]; exact gy), ?_⟩
        exact W'.pop lB hx hy (List.pairwise_iff_getElem.mp U.ba l' (l' + 1) (by omega) (by omega) (by omega) |> fun z => by
          rw [(List.getElem?_eq_some_iff.mp hx).2, (List.getElem?_eq_some_iff.mp hy).2] at z
          exact z) (hn p2 (List.mem_of_getElem? a2)) (fun p hp => by
          obtain ⟨q, hq, rfl⟩ := List.mem_map.mp hp
          exact Int.le_of_lt (hn q hq)) (by
          show (p2.1 - p1.1) * (-1 * (n.2 - e) - -1 * (p1.2 - e)) - (-1 * (p2.2 - e) - -1 * (p1.2 - e)) * (n.1 - p1.1) ≤ 0
          grind)
      · rintro σ2 H2 ⟨l', W'⟩
        obtain rfl := W'.st
        have hle' := W'.le
        have ll' : (bs.take l').length = l' := by
          rw [List.length_take]
          omega
        have hf2 : H2 f = some (.ins CF dx (fitF e m aP aT aB fv sv)) := W'.keep _ _ (kT _ _ hf nfT) nfB
        refine ⟨_, rfl, _, _, _, _, _, rfl, hf2, FC.cl, FC.bottoms, rfl, .inl ⟨rfl, _, SqL.of W'.lst⟩, _, rfl, aB, bs.take l', vb, rfl, rfl, W'.lst, small1000 (by have := U.bl; have := PK.len; omega), ?_⟩
        have keep : ∀ b o, H b = some o → b ≠ aT → b ≠ aB → upd H2 aB (.lst (bs.take l' ++ [vb])) b = some o := fun b o q n1 n2 => by
          rw [upd_ne n2]
          exact W'.keep b o (kT b o q n1) n2
        have tr : ∀ b xs, H b = some (.tup xs) → upd H2 aB (.lst (bs.take l' ++ [vb])) b = some (.tup xs) := fun b xs q => keep b _ q (ne_of q hT (by intro z; cases z)) (ne_of q hB (by intro z; cases z))
        refine k _ (tops.take l ++ [(n.1, n.2 + e, (pts.length : Int))]) (bots.take l' ++ [(n.1, n.2 - e, (pts.length : Int))]) keep ⟨ts.take l ++ [vt], ?_, ?_⟩ ⟨bs.take l' ++ [vb], upd_same, ?_⟩ (hull_new U hn W.dom W'.dom)
        · rw [upd_ne nTB]
          exact W'.keep _ _ hT2 nTB
        · exact paired_app (pairedSame IsTri.mono tr (paired_take l hts)) (.cons (IsTri.mono _ _ _ _ tr it) .nil)
        · exact paired_app (pairedSame IsTri.mono tr (paired_take l' hbs)) (.cons (IsTri.mono _ _ _ _ tr ib) .nil)
end
end KW
namespace KW
open PySem PySem.Spec PyProof.Rows L2 KG
section
variable {P : Program} {w : World} {K : PySem.W.Frag} {mg : Str → Option Value} {base : Heap} {CF : Addr}
theorem fit_no {e n : Int} {aP aT aB : Addr} {fv sv : V} : (fitF e n aP aT aB fv sv).lookup ("conflict" : Str) = none ∧ (fitF e n aP aT aB fv sv).lookup ("add" : Str) = none ∧ (fitF e n aP aT aB fv sv).lookup ("add_corners" : Str) = none ∧ (fitF e n aP aT aB fv sv).lookup ("lower_steep" : Str) = none ∧
    (fitF e n aP aT aB fv sv).lookup ("raise_flat" : Str) = none ∧ (fitF e n aP aT aB fv sv).lookup ("line" : Str) = none := ⟨rfl, rfl, rfl, rfl, rfl, rfl⟩
def spAdd (CF : Addr) : Sp := fun vs H Q _ => ∃ f v e pts own n, vs = [.ref f, v] ∧ FitAt H f CF e pts own ∧ IsPt H v n ∧ PtsOK e (pts ++ [n]) ∧ PairsOK e (pts ++ [n]) ∧
  ∀ H', Kept own H H' → FitAt H' f CF e (pts ++ [n]) own → Q (.bl true) H'
abbrev s_Fitter_add : Stmt := inClass (topS 14) 2
abbrev N_Fitter_add : List Str := ["self", "point", "top", "bottom"]
theorem sc_Fitter_add : FnScope N_Fitter_add ["self", "point"] (defScope s_Fitter_add) := ⟨rfl, rfl, rfl, by decide +kernel, rfl, by decide +kernel, by decide +kernel⟩
theorem bd_Fitter_add : BindsN "add" "Fitter.add" s_Fitter_add ["self", "point"] := fun _ _ _ _ _ _ us hl => match us, hl with | [_, _], _ => rfl
theorem ok_Fitter_add (T : Txt mg) (FC : FitC K CF) (D : MethAt K CF "add" "Fitter.add" s_Fitter_add) (c_Fitter_conflict : C8.Met P w K mg base 2 CF "conflict" (spConflict CF) []) (c_Fitter_lower_steep : C8.Met P w K mg base 2 CF "lower_steep" (spLower CF) [])
    (c_Fitter_raise_flat : C8.Met P w K mg base 2 CF "raise_flat" (spRaise CF) []) (c_Fitter_add_corners : C8.Met P w K mg base 2 CF "add_corners" (spCorners CF) []) : C8.Met P w K mg base 3 CF "add" (spAdd CF) [] := by
  refine met_of FC.cl D sc_Fitter_add bd_Fitter_add (fun vs H Q E h => ?_) (fun f cdv A outer s H vs Q E hr h => ?_)
  · obtain ⟨f, v, e, pts, own, n, rfl, _⟩ := h
    rfl
  · obtain ⟨f, v, e, pts, own, n, rfl, F, hv, PN, PR, k⟩ := h
    obtain ⟨PK, hn, sn⟩ := PN.old
    obtain ⟨aP, aT, aB, dx, fv, sv, tops, bots, rfl, hf, hP, hT, hB, nPT, nPB, nTB, U, hFS⟩ := F.ex
    obtain ⟨tv, rfl, hv'⟩ := id hv
    refine ⟨_, (pss_cons (ps_if (pt_cmpR op_notN (C8.pe_mt c_Fitter_conflict hr (by decide) (pv 0) (pa_cons (pv 1) pa_nil)) pe_non (nomark _)) (pss_one (ps_ret pe_bl)) pss_nil)
      (pss_cons (ps_set (i := 2) sc_Fitter_add.nd rfl (.inl rfl) (pe_tup (pa_cons (pe_ix ix_tup (pv 1) pe_int (fun _ _ => rfl)) (pa_cons (pe_op op_add (pe_ix ix_tup (pv 1) pe_int (fun _ _ => rfl)) (pe_fld (pv 0) rfl)) (pa_cons (pe_fld (pv 0) rfl) pa_nil)))))
      (pss_cons (ps_set (i := 3) sc_Fitter_add.nd rfl (.inl rfl) (pe_tup (pa_cons (pe_ix ix_tup (pv 1) pe_int (fun _ _ => rfl)) (pa_cons (pe_op op_sub (pe_ix ix_tup (pv 1) pe_int (fun _ _ => rfl)) (pe_fld (pv 0) rfl)) (pa_cons (pe_fld (pv 0) rfl) pa_nil)))))
      (C8.pss_cut (ps_if (pt_cmpR op_eq (pe_fld (pv 0) rfl) pe_int (nomark _)) (pss_cons (ps_fld (pv 0) (pe_tup (pa_cons (pe_ix ix_list (pe_fld (pv 0) rfl) pe_int (fun _ _ => rfl)) (pa_cons (pv 3) pa_nil))) rfl)
        (pss_one (ps_fld (pv 0) (pe_tup (pa_cons (pe_ix ix_list (pe_fld (pv 0) rfl) pe_int (fun _ _ => rfl)) (pa_cons (pv 2) pa_nil))) rfl))) (pss_one (ps_if (pt_cmpR op_gt (pe_fld (pv 0) rfl) pe_int (nomark _)) (pss_cons (ps_expr (C8.pe_mt c_Fitter_lower_steep hr (by decide) (pv 0) (pa_cons (pv 2) pa_nil)))
          (pss_one (ps_expr (C8.pe_mt c_Fitter_raise_flat hr (by decide) (pv 0) (pa_cons (pv 3) pa_nil))))) pss_nil)))
      (pss_cons (ps_expr (C8.pe_mt c_Fitter_add_corners hr (by decide) (pv 0) (pa_cons (pv 2) (pa_cons (pv 3) pa_nil))))
      (pss_cons (ps_expr (pe_bm PySem.F.plainAttrs_list PySem.F.slot_list_append PySem.F.type_list_append mt_append (pe_fld (pv 0) rfl) (pa_cons (pv 1) pa_nil)))
      (pss_cons (ps_fldaug (pv 0) pe_int in_add)
      (pss_one (ps_ret pe_bl))))))))), ?_⟩
    refine ⟨_, rfl, f, dx, _, rfl, hf, fit_no.1, _, rfl, f, _, e, pts, _, n, rfl, F, hv, sn, hn, fun H1 S1 _ => ?_, fun H1 v1 i j p q S1 h1 hij g1 g2 h3 hpq => ?_⟩
    case refine_2 =>
      have := three_of_pairs PR (List.mem_of_getElem? g1) (List.mem_of_getElem? g2) hpq (hn q (List.mem_of_getElem? g2))
      rw [h3] at this
      cases this
    refine ⟨rfl, _, rfl, ite2 (fun c => by simp at c) (fun _ => ?_)⟩
    refine ⟨_, rfl, _, _, _, _, rfl, rfl, SqT.of (S1 _ _ hv'), rfl, _, rfl, _, _, _, _, rfl, rfl, SqT.of (S1 _ _ hv'), rfl, _, rfl, _, _, _, _, _, rfl, S1 _ _ hf, FC.cl, FC.error, rfl, _, _, rfl, rfl, _, rfl, _, _, _, _, _, rfl, S1 _ _ hf, FC.cl, FC.count, rfl, (by show 3 ≤ sizeLine; decide), fun t1 nt1 => ?_⟩
    have S2 := sameU (o := .tup [.int n.1, .int (n.2 + e), .int (pts.length : Int)]) S1 nt1
    refine ⟨_, rfl, _, _, _, _, rfl, rfl, SqT.of (S2 _ _ hv'), rfl, _, rfl, _, _, _, _, rfl, rfl, SqT.of (S2 _ _ hv'), rfl, _, rfl, _, _, _, _, _, rfl, S2 _ _ hf, FC.cl, FC.error, rfl, _, _, rfl, rfl, _, rfl, _, _, _, _, _, rfl, S2 _ _ hf, FC.cl, FC.count, rfl, (by show 3 ≤ sizeLine; decide), fun t2 nt2 => ?_⟩
    have S3 := sameU (o := .tup [.int n.1, .int (n.2 - e), .int (pts.length : Int)]) S2 nt2
    have i1 : IsTri (upd (upd H1 t1 (.tup [.int n.1, .int (n.2 + e), .int (pts.length : Int)])) t2 (.tup [.int n.1, .int (n.2 - e), .int (pts.length : Int)])) (.ref t1) (n.1, n.2 + e, (pts.length : Int)) := ⟨t1, rfl, same_upd nt2 _ _ upd_same⟩
    have i2 : IsTri (upd (upd H1 t1 (.tup [.int n.1, .int (n.2 + e), .int (pts.length : Int)])) t2 (.tup [.int n.1, .int (n.2 - e), .int (pts.length : Int)])) (.ref t2) (n.1, n.2 - e, (pts.length : Int)) := ⟨t2, rfl, upd_same⟩
    generalize upd (upd H1 t1 (.tup [.int n.1, .int (n.2 + e), .int (pts.length : Int)])) t2 (.tup [.int n.1, .int (n.2 - e), .int (pts.length : Int)]) = G at S3 i1 i2
    have hfG := S3 _ _ hf
    have nfT : f ≠ aT := ne_of hf hT.choose_spec.1 (by intro z; cases z)
    have nfB : f ≠ aB := ne_of hf hB.choose_spec.1 (by intro z; cases z)
    have nfP : f ≠ aP := ne_of hf hP.choose_spec.1 (by intro z; cases z)
    -- the two lines
    refine ⟨fun st H' => st = [some (.ref f), some (.ref tv), some (.ref t1), some (.ref t2)] ∧ ∃ fv' sv', H' f = some (.ins CF dx (fitF e pts.length aP aT aB fv' sv')) ∧ (∀ b o, G b = some o → b ≠ f → H' b = some o) ∧ (1 ≤ pts.length → FlatAt H' e (pts ++ [n]) fv' ∧ SteepAt H' e (pts ++ [n]) sv'), ?_, ?_⟩
    · refine ⟨_, rfl, _, _, _, _, _, rfl, hfG, FC.cl, FC.count, rfl, rfl, _, rfl, ite2 (fun c => ?_) (fun c => ?_)⟩
      · have hl : pts.length = 1 := by
          have := V.int.inj (of_decide_eq_true c)
          omega
        obtain ⟨a, rfl⟩ : ∃ a, pts = [a] := List.length_eq_one_iff.mp hl
        have lt := hn a (by simp)
        obtain ⟨ts, hT1, hts⟩ := hT
        obtain ⟨bs, hB1, hbs⟩ := hB
        obtain ⟨c0, hc0⟩ : ∃ c, tops[0]? = some c := by
          have := U.tn (by simp)
          exact ⟨_, List.getElem?_eq_getElem (List.length_pos_iff.mpr this)⟩
        obtain ⟨d0, hd0⟩ : ∃ c, bots[0]? = some c := by
          have := U.bn (by simp)
          exact ⟨_, List.getElem?_eq_getElem (List.length_pos_iff.mpr this)⟩
        obtain ⟨vc, gc, ic⟩ := paired_get' hts hc0
        obtain ⟨vd, gd, id'⟩ := paired_get' hbs hd0
        have one : ∀ {i : Nat} {p : P2}, [a][i]? = some p → i = 0 ∧ p = a := fun {i p} h => by
          match i, h with
          | 0, h => exact ⟨rfl, (Option.some.inj h).symm⟩
          | i + 1, h => simp at h
        obtain ⟨i0, p0, g0, rfl⟩ := U.tw c0 (List.mem_of_getElem? hc0)
        obtain ⟨rfl, rfl⟩ := one g0
        obtain ⟨i0', p0', g0', rfl⟩ := U.bw d0 (List.mem_of_getElem? hd0)
        obtain ⟨rfl, rfl⟩ := one g0'
        have two := pairs_two (e := e) PK.he lt
        refine ⟨_, rfl, _, _, _, _, _, rfl, hfG, FC.cl, FC.tops, rfl, _, _, _, _, rfl, rfl, SqL.of (S3 _ _ hT1), atI_nat (j := 0) gc, _, rfl, (by show 2 ≤ sizeLine; decide), fun t3 n3 => ⟨_, rfl, f, CF, dx, _, rfl, sameU S3 n3 _ _ hf, FC.cl, FC.flat, (by show 7 < 1000; decide), ?_⟩⟩
        rw [put_flat]
        have nf3 : f ≠ t3 := ne_of_none hfG n3
        have k1 : ∀ b o, G b = some o → b ≠ f → (upd (upd G t3 (.tup [vc, .ref t2])) f (.ins CF dx (fitF e ([p0'].length : Nat) aP aT aB (.ref t3) sv))) b = some o := fun b o q ne => by
          rw [upd_ne ne]
          exact same_upd n3 b o q
        refine ⟨_, rfl, _, _, _, _, _, rfl, upd_same, FC.cl, FC.bottoms, rfl, _, _, _, _, rfl, rfl, SqL.of (k1 _ _ (S3 _ _ hB1) nfB.symm), atI_nat (j := 0) gd, _, rfl, (by show 2 ≤ sizeLine; decide), fun t4 n4 => ⟨_, rfl, f, CF, dx, _, rfl, same_upd n4 _ _ upd_same, FC.cl, FC.steep, (by show 7 < 1000; decide), ?_⟩⟩
        rw [put_steep]
        have nf4 : f ≠ t4 := ne_of_none upd_same n4
        have k2 : ∀ b o, G b = some o → b ≠ f → (upd (upd (upd (upd G t3 (.tup [vc, .ref t2])) f (.ins CF dx (fitF e ([p0'].length : Nat) aP aT aB (.ref t3) sv))) t4 (.tup [vd, .ref t1])) f (.ins CF dx (fitF e ([p0'].length : Nat) aP aT aB (.ref t3) (.ref t4)))) b = some o := fun b o q ne => by
          rw [upd_ne ne]
          exact same_upd n4 b o (k1 b o q ne)
        have tr : ∀ b xs, G b = some (.tup xs) → (upd (upd (upd (upd G t3 (.tup [vc, .ref t2])) f (.ins CF dx (fitF e ([p0'].length : Nat) aP aT aB (.ref t3) sv))) t4 (.tup [vd, .ref t1])) f (.ins CF dx (fitF e ([p0'].length : Nat) aP aT aB (.ref t3) (.ref t4)))) b = some (.tup xs) := fun b xs q => k2 b _ q (ne_of q hfG (by intro z; cases z))
        have tr0 := sameT S3
        refine ⟨rfl, .ref t3, .ref t4, upd_same, k2, fun _ => ⟨⟨t3, vc, .ref t2, 0, 1, p0', n, rfl, ?_, IsTri.mono _ _ _ _ tr (IsTri.mono _ _ _ _ tr0 ic), IsTri.mono _ _ _ _ tr i2, rfl, rfl, two.2.1⟩, ⟨t4, vd, .ref t1, 0, 1, p0', n, rfl, ?_, IsTri.mono _ _ _ _ tr (IsTri.mono _ _ _ _ tr0 id'), IsTri.mono _ _ _ _ tr i1, rfl, rfl, two.2.2⟩⟩⟩
        · have h3 : (upd (upd G t3 (.tup [vc, .ref t2])) f (.ins CF dx (fitF e ([p0'].length : Nat) aP aT aB (.ref t3) sv))) t3 = some (.tup [vc, .ref t2]) := by
            rw [upd_ne nf3.symm]
            exact upd_same
          rw [upd_ne nf3.symm]
          exact same_upd n4 _ _ h3
        · rw [upd_ne nf4.symm]
          exact upd_same
      · have hl : ¬ pts.length = 1 := fun z => c (decide_eq_true (by rw [z] <;> rfl))
        refine ⟨_, rfl, _, _, _, _, _, rfl, hfG, FC.cl, FC.count, rfl, _, _, rfl, rfl, _, rfl, ite2 (fun c => ?_) (fun c => ?_)⟩
        · have hl2 : 2 ≤ pts.length := by
            have := of_decide_eq_true c
            omega
          have hne : pts ≠ [] := by
            intro z
            rw [z] at hl2
            simp at hl2
          obtain ⟨FA, SA⟩ := hFS hl2
          refine ⟨_, rfl, f, dx, _, rfl, hfG, fit_no.2.2.2.1, _, rfl, f, _, dx, e, _, aP, aT, aB, fv, sv, bots, pts, n, rfl, hfG, LsOf.same IsTri.mono S3 hB, U.bn hne, U.bw, U.bd, SA.mono (sameT S3), PK, F.pairs, i1, sn, hn, fun H2 sv' k2 hf2 SA' => ?_⟩
          have tr2 : ∀ b xs, G b = some (.tup xs) → H2 b = some (.tup xs) := fun b xs q => k2 b _ q (ne_of q hfG (by intro z; cases z))
          have hT2 : LsOf IsTri H2 aT tops := by
            obtain ⟨ts, q1, q2⟩ := hT
            exact ⟨ts, k2 _ _ (S3 _ _ q1) nfT.symm, pairedSame IsTri.mono (fun b xs q => tr2 b xs (S3 _ _ q)) q2⟩
          refine ⟨_, rfl, f, dx, _, rfl, hf2, fit_no.2.2.2.2.1, _, rfl, f, _, dx, e, _, aP, aT, aB, fv, sv', tops, pts, n, rfl, hf2, hT2, U.tn hne, U.tw, U.td, FA.mono (fun b xs q => tr2 b xs (S3 _ _ q)), PK, F.pairs, IsTri.mono _ _ _ _ tr2 i2, sn, hn, fun H3 fv' k3 hf3 FA' => ?_⟩
          have tr3 : ∀ b xs, H2 b = some (.tup xs) → H3 b = some (.tup xs) := fun b xs q => k3 b _ q (ne_of q hf2 (by intro z; cases z))
          exact ⟨rfl, fv', sv', hf3, fun b o q ne => k3 b o (k2 b o q ne) ne, fun _ => ⟨FA', SA'.mono tr3⟩⟩
        · have hl0 : pts.length = 0 := by
            have : ¬ 1 < (pts.length : Int) := fun z => c (decide_eq_true z)
            omega
          exact ⟨rfl, fv, sv, hfG, fun b o q _ => q, fun z => by omega⟩
    · rintro st H2 ⟨rfl, fv', sv', hf2, k2, hFS2⟩
      have tr2 : ∀ b xs, G b = some (.tup xs) → H2 b = some (.tup xs) := fun b xs q => k2 b _ q (ne_of q hfG (by intro z; cases z))
      have tr20 : ∀ b xs, H b = some (.tup xs) → H2 b = some (.tup xs) := fun b xs q => tr2 b xs (S3 _ _ q)
      have hT2 : LsOf IsTri H2 aT tops := by
        obtain ⟨ts, q1, q2⟩ := hT
        exact ⟨ts, k2 _ _ (S3 _ _ q1) nfT.symm, pairedSame IsTri.mono tr20 q2⟩
      have hB2 : LsOf IsTri H2 aB bots := by
        obtain ⟨ts, q1, q2⟩ := hB
        exact ⟨ts, k2 _ _ (S3 _ _ q1) nfB.symm, pairedSame IsTri.mono tr20 q2⟩
      refine ⟨_, rfl, f, dx, _, rfl, hf2, fit_no.2.2.1, _, rfl, _, rfl, f, _, _, dx, e, _, aP, aT, aB, fv', sv', tops, bots, pts, n, rfl, hf2, hT2, hB2, nTB, U, PN, IsTri.mono _ _ _ _ tr2 i1, IsTri.mono _ _ _ _ tr2 i2, fun H3 tops' bots' k3 hT3 hB3 U3 => ?_⟩
      have hf3 := k3 _ _ hf2 nfT nfB
      obtain ⟨ps, hP1, hps⟩ := hP
      have hP3 := k3 _ _ (k2 _ _ (S3 _ _ hP1) nfP.symm) nPT nPB
      have tr3 : ∀ b xs, H2 b = some (.tup xs) → H3 b = some (.tup xs) := fun b xs q => k3 b _ q (ne_of q hT2.choose_spec.1 (by intro z; cases z)) (ne_of q hB2.choose_spec.1 (by intro z; cases z))
      refine ⟨_, rfl, _, _, _, _, _, rfl, hf3, FC.cl, FC.points, rfl, .inl ⟨rfl, _, SqL.of hP3⟩, _, rfl, aP, ps, .ref tv, rfl, rfl, hP3, small1000 (by rw [hps.length]; exact Nat.le_trans PK.len (by decide)), ?_⟩
      have hf4 : upd H3 aP (.lst (ps ++ [.ref tv])) f = some (.ins CF dx (fitF e pts.length aP aT aB fv' sv')) := by
        rw [upd_ne nfP]
        exact hf3
      refine ⟨_, rfl, _, _, _, _, _, rfl, hf4, FC.cl, FC.count, rfl, _, _, rfl, rfl, dx, _, hf4, (by show 7 < 1000; decide), ?_⟩
      rw [put_count]
      have keep : Kept [f, aP, aT, aB] H (upd (upd H3 aP (.lst (ps ++ [.ref tv]))) f (.ins CF dx (fitF e ((pts.length : Int) + 1) aP aT aB fv' sv'))) := fun b o q nm => by
        simp only [List.mem_cons, List.not_mem_nil, or_false, not_or] at nm
        rw [upd_ne nm.1, upd_ne nm.2.1]
        exact k3 b o (k2 b o (S3 b o q) nm.1) nm.2.2.1 nm.2.2.2
      have tr4 : ∀ b xs, H3 b = some (.tup xs) → (upd (upd H3 aP (.lst (ps ++ [.ref tv]))) f (.ins CF dx (fitF e ((pts.length : Int) + 1) aP aT aB fv' sv'))) b = some (.tup xs) := fun b xs q => by
        rw [upd_ne (ne_of q hf3 (by intro z; cases z)), upd_ne (ne_of q hP3 (by intro z; cases z))]
        exact q
      have l1 : (((pts ++ [n]).length : Nat) : Int) = (pts.length : Int) + 1 := by
        rw [List.length_append]
        rfl
      obtain ⟨ts3, hT4, hts3⟩ := hT3
      obtain ⟨bs3, hB4, hbs3⟩ := hB3
      refine k _ keep ⟨⟨aP, aT, aB, dx, fv', sv', tops', bots', rfl, ?_, ⟨ps ++ [.ref tv], ?_, ?_⟩, ⟨ts3, ?_, pairedSame IsTri.mono tr4 hts3⟩, ⟨bs3, ?_, pairedSame IsTri.mono tr4 hbs3⟩, nPT, nPB, nTB, U3, fun z => ?_⟩, PN, PR⟩
      · rw [l1]
        exact upd_same
      · rw [upd_ne nfP.symm]
        exact upd_same
      · exact paired_app (pairedSame IsPt.mono (fun b xs q => tr4 b xs (tr3 b xs (tr20 b xs q))) hps) (.cons (IsPt.mono _ _ _ _ (fun b xs q => tr4 b xs (tr3 b xs (tr20 b xs q))) ⟨tv, rfl, hv'⟩) .nil)
      · rw [upd_ne nfT.symm, upd_ne nPT.symm]
        exact hT4
      · rw [upd_ne nfB.symm, upd_ne nPB.symm]
        exact hB4
      · have : 1 ≤ pts.length := by
          rw [List.length_append, List.length_singleton] at z
          omega
        obtain ⟨FA, SA⟩ := hFS2 this
        exact ⟨FA.mono (fun b xs q => tr4 b xs (tr3 b xs q)), SA.mono (fun b xs q => tr4 b xs (tr3 b xs q))⟩
end
end KW
namespace KW
open PySem PySem.Spec PyProof.Rows L2 KG
theorem for_enum {K : PySem.W.Frag} {a : Addr} {xs : List V} {g : TG} {tb : TS} {D : Ends} {σ : L2.St} {H : Hp} (Pv : Nat → L2.St → Hp → Prop) (h0 : Pv 0 σ H) (hl : ∀ i σ H, i ≤ xs.length → Pv i σ H → SqL K H a xs)
    (hs : ∀ (i : Nat) x σ H T, xs[i]? = some x → Pv i σ H → H T = none → g (.ref T) σ (upd H T (.tup [.int (i : Int), x])) fun σ2 H2 => tb { D with nx := Pv (i + 1), ct := Pv (i + 1), bk := D.nx } σ2 H2) (hd : ∀ σ H, Pv xs.length σ H → D.nx σ H) :
    ∃ W : Nat → Nat → L2.St → Hp → Prop, (∃ m, W 0 m σ H) ∧ ∀ i m σ H, W i m σ H →
      ((Ite K a).stop i H ∧ D.nx σ H) ∨ ((Ite K a).go i H ∧ ∃ N : L2.St → Hp → Prop, (∀ σ' H', N σ' H' → ∃ m', m' < m ∧ W (i + 1) m' σ' H') ∧ ∀ x H', (Ite K a).yld i H x H' → g x σ H' fun σ2 H2 => tb { D with nx := N, ct := N, bk := D.nx } σ2 H2) := by
  refine ⟨fun i m σ H => m = xs.length - i ∧ i ≤ xs.length ∧ Pv i σ H, ⟨xs.length, by simp, Nat.zero_le _, h0⟩, ?_⟩
  rintro i m σ H ⟨rfl, hi, p⟩
  have q := hl i σ H hi p
  by_cases hlt : i < xs.length
  · refine .inr ⟨⟨xs, xs[i], q, by simp [hlt]⟩, Pv (i + 1), fun σ' H' p' => ⟨xs.length - (i + 1), by omega, rfl, hlt, p'⟩, fun x H' y => ?_⟩
    obtain ⟨T, z, rfl, hT, rfl, hz⟩ := y
    exact hs i z σ H T (hz xs q) p hT
  · have e : i = xs.length := by omega
    subst e
    exact .inl ⟨⟨xs, q, Nat.le_refl _⟩, hd σ H p⟩
/-- below 10^40 -/
def Lg (x : Int) : Prop := x.natAbs < 10000000000000000000000000000000000000000
theorem mul_bd {x y : Int} {a b : Nat} (h1 : x.natAbs ≤ a) (h2 : y.natAbs ≤ b) : (x * y).natAbs ≤ a * b := by
  rw [Int.natAbs_mul]
  exact Nat.mul_le_mul h1 h2
theorem sm_nat {x : Int} (h : Sm x) : x.natAbs ≤ 1099511627776 := by
  unfold Sm at h
  omega
theorem md_nat {x : Int} (h : Md x) : x.natAbs ≤ 1152921504606846976 := by
  unfold Md at h
  omega
theorem md_lg {x : Int} (h : Md x) : Lg x := by
  unfold Md at h
  unfold Lg
  omega
theorem lowQ_lg {p d e : Int} {m : P2} (hp : Md p) (hd : Md d) (he : Sm e) (hm : SmP m) : Lg (lowQ p d e m) := by
  have h1 := mul_bd (sm_nat hm.2) (md_nat hd)
  have h2 := mul_bd (sm_nat he) (md_nat hd)
  have h3 := mul_bd (md_nat hp) (sm_nat hm.1)
  unfold Lg lowQ
  omega
theorem quot_md {n g a : Int} (hg : 0 < g) (h : n * g = a) (ha : Md a) : Md n := by
  have h1 : n.natAbs * g.natAbs = a.natAbs := by rw [← Int.natAbs_mul, h]
  have h2 : n.natAbs * 1 ≤ n.natAbs * g.natAbs := Nat.mul_le_mul_left _ (by omega)
  unfold Md at *
  omega
section
variable {P : Program} {w : World} {K : PySem.W.Frag} {mg : Str → Option Value} {base : Heap} {CF : Addr}
/-! ### the Fitter's line -/
def spLine (CF : Addr) : Sp := fun vs H Q _ => ∃ f e pts own, vs = [.ref f] ∧ FitAt H f CF e pts own ∧ pts ≠ [] ∧
  ∀ H' v p q d, Same H H' → IsTri H' v (p, q, d) → 1 ≤ d → (∀ pt ∈ pts, near p q d pt e = true) → Lg p → Lg q → Lg d → Q v H'
abbrev s_Fitter_line : Stmt := inClass (topS 14) 7
abbrev N_Fitter_line : List Str := ["self", "lower", "upper", "slope"]
theorem sc_Fitter_line : FnScope N_Fitter_line ["self"] (defScope s_Fitter_line) := ⟨rfl, rfl, rfl, by decide +kernel, rfl, by decide +kernel, by decide +kernel⟩
theorem bd_Fitter_line : BindsN "line" "Fitter.line" s_Fitter_line ["self"] := fun _ _ _ _ _ _ us hl => match us, hl with | [_], _ => rfl
theorem ok_Fitter_line (T : Txt mg) (FC : FitC K CF) (D : MethAt K CF "line" "Fitter.line" s_Fitter_line) (c_rise_over : Cal P w K mg base 1 "rise_over" spRise []) (c_slope_between : Cal P w K mg base 1 "slope_between" spBetween [])
    (c_fraction : Cal P w K mg base 2 "fraction" spFraction []) (c_line_with_slope : Cal P w K mg base 1 "line_with_slope" spWithSlope []) : C8.Met P w K mg base 3 CF "line" (spLine CF) [] := by
  refine met_of FC.cl D sc_Fitter_line bd_Fitter_line (fun vs H Q E h => ?_) (fun f cdv A outer s H vs Q E hr h => ?_)
  · obtain ⟨f, e, pts, own, rfl, _⟩ := h
    rfl
  · obtain ⟨f, e, pts, own, rfl, F, hne, k⟩ := h
    have PK := F.ok
    obtain ⟨aP, aT, aB, dx, fv, sv, tops, bots, rfl, hf, hP, hT, hB, nPT, nPB, nTB, U, hFS⟩ := F.ex
    have hpos := List.length_pos_iff.mpr hne
    refine ⟨_, (pss_cons (ps_if (pt_cmpR op_eq (pe_fld (pv 0) rfl) pe_int (nomark _)) (pss_one (ps_ret (pe_tup (pa_cons pe_int (pa_cons pe_int (pa_cons pe_int pa_nil)))))) pss_nil)
      (pss_cons (ps_if (pt_cmpR op_eq (pe_fld (pv 0) rfl) pe_int (nomark _)) (pss_one (ps_ret (pe_tup (pa_cons pe_int (pa_cons (pe_ix ix_tup (pe_ix ix_list (pe_fld (pv 0) rfl) pe_int (fun _ _ => rfl)) pe_int (fun _ _ => rfl)) (pa_cons pe_int pa_nil)))))) pss_nil)
      (pss_cons (ps_set (i := 1) sc_Fitter_line.nd rfl (.inl rfl) (C8.pe_c c_rise_over hr (by decide) (by rfl) (pa_cons (pe_ix ix_tup (pe_fld (pv 0) rfl) pe_int (fun _ _ => rfl)) (pa_cons (pe_ix ix_tup (pe_fld (pv 0) rfl) pe_int (fun _ _ => rfl)) pa_nil))))
      (pss_cons (ps_set (i := 2) sc_Fitter_line.nd rfl (.inl rfl) (C8.pe_c c_rise_over hr (by decide) (by rfl) (pa_cons (pe_ix ix_tup (pe_fld (pv 0) rfl) pe_int (fun _ _ => rfl)) (pa_cons (pe_ix ix_tup (pe_fld (pv 0) rfl) pe_int (fun _ _ => rfl)) pa_nil))))
      (pss_cons (ps_set (i := 3) sc_Fitter_line.nd rfl (.inl rfl) (C8.pe_c c_slope_between hr (by decide) (by rfl) (pa_cons (C8.pe_c c_fraction hr (by decide) (by rfl) (pa_cons (pe_ix ix_tup (pv 1) pe_int (fun _ _ => rfl)) (pa_cons (pe_ix ix_tup (pv 1) pe_int (fun _ _ => rfl)) pa_nil))) (pa_cons (C8.pe_c c_fraction hr (by decide) (by rfl) (pa_cons (pe_ix ix_tup (pv 2) pe_int (fun _ _ => rfl)) (pa_cons (pe_ix ix_tup (pv 2) pe_int (fun _ _ => rfl)) pa_nil))) pa_nil))))
      (pss_one (ps_ret (C8.pe_c c_line_with_slope hr (by decide) (by rfl) (pa_cons (pe_fld (pv 0) rfl) (pa_cons (pe_fld (pv 0) rfl) (pa_cons (pv 3) pa_nil))))))))))), ?_⟩
    refine ⟨_, rfl, _, _, _, _, _, rfl, hf, FC.cl, FC.count, rfl, rfl, _, rfl, ite2 (fun c => ?_) (fun _ => ?_)⟩
    · have := V.int.inj (of_decide_eq_true c)
      omega
    refine ⟨_, rfl, _, _, _, _, _, rfl, hf, FC.cl, FC.count, rfl, rfl, _, rfl, ite2 (fun c => ?_) (fun c => ?_)⟩
    · have hl : pts.length = 1 := by
        have := V.int.inj (of_decide_eq_true c)
        omega
      obtain ⟨a, rfl⟩ : ∃ a, pts = [a] := List.length_eq_one_iff.mp hl
      obtain ⟨ps, hP1, hps⟩ := hP
      obtain ⟨v0, g0, ta, rfl, hta⟩ := paired_get' (i := 0) hps rfl
      refine ⟨_, rfl, _, _, _, _, _, rfl, hf, FC.cl, FC.points, rfl, _, _, _, _, rfl, rfl, SqL.of hP1, atI_nat (j := 0) g0, _, _, _, _, rfl, rfl, SqT.of hta, rfl, (by show 3 ≤ sizeLine; decide), fun t nt => ?_⟩
      have sa := PK.sm a (by simp)
      refine k _ _ 0 a.2 1 (same_upd nt) ⟨t, rfl, upd_same⟩ (by decide) (fun pt hpt => ?_) (by unfold Lg; decide) (md_lg (by have := sa.2; unfold Sm at this; unfold Md; omega)) (by unfold Lg; decide)
      rw [List.mem_singleton.mp hpt, near_iff]
      have := PK.he
      constructor <;> omega
    · have hl : 2 ≤ pts.length := by
        have : ¬ pts.length = 1 := fun z => c (decide_eq_true (by rw [z] <;> rfl))
        omega
      obtain ⟨⟨tf, u1, u2, i1, i2, p1, p2, rfl, ht, ⟨t1, rfl, h1⟩, ⟨t2, rfl, h2⟩, g1, g2, FO⟩, ⟨ts, w1, w2, j1, j2, q1, q2, rfl, hs, ⟨s1, rfl, h3⟩, ⟨s2, rfl, h4⟩, g3, g4, SO⟩⟩ := hFS hl
      have m1 := PK.sm p1 FO.mf
      have m2 := PK.sm p2 FO.mg
      have m3 := PK.sm q1 SO.mh
      have m4 := PK.sm q2 SO.mk_
      have fl := FO.lt
      have sl := SO.lt
      refine ⟨_, rfl, _, _, _, _, _, rfl, hf, FC.cl, FC.flat, rfl, _, _, _, _, rfl, rfl, SqT.of ht, rfl, _, rfl, _, _, _, _, _, rfl, hf, FC.cl, FC.flat, rfl, _, _, _, _, rfl, rfl, SqT.of ht, rfl, ?_⟩
      refine ⟨_, _, p1.1, p1.2 + e, p2.1, p2.2 - e, rfl, ⟨t1, _, rfl, h1, rfl, rfl⟩, ⟨t2, _, rfl, h2, rfl, rfl⟩, fun a na => ?_⟩
      have S1 := same_upd (o := .tup [.int (p2.2 - e - (p1.2 + e)), .int (p2.1 - p1.1)]) na
      refine ⟨_, rfl, _, _, _, _, _, rfl, S1 _ _ hf, FC.cl, FC.steep, rfl, _, _, _, _, rfl, rfl, SqT.of (S1 _ _ hs), rfl, _, rfl, _, _, _, _, _, rfl, S1 _ _ hf, FC.cl, FC.steep, rfl, _, _, _, _, rfl, rfl, SqT.of (S1 _ _ hs), rfl, ?_⟩
      refine ⟨_, _, q1.1, q1.2 - e, q2.1, q2.2 + e, rfl, ⟨s1, _, rfl, S1 _ _ h3, rfl, rfl⟩, ⟨s2, _, rfl, S1 _ _ h4, rfl, rfl⟩, fun b nb => ?_⟩
      have S2 := sameU (o := .tup [.int (q2.2 + e - (q1.2 - e)), .int (q2.1 - q1.1)]) S1 nb
      have ha2 := same_upd (o := .tup [.int (q2.2 + e - (q1.2 - e)), .int (q2.1 - q1.1)]) nb _ _ (upd_same (H := H) (a := a) (o := .tup [.int (p2.2 - e - (p1.2 + e)), .int (p2.1 - p1.1)]))
      have hb2 := upd_same (H := upd H a (.tup [.int (p2.2 - e - (p1.2 + e)), .int (p2.1 - p1.1)])) (a := b) (o := .tup [.int (q2.2 + e - (q1.2 - e)), .int (q2.1 - q1.1)])
      generalize upd (upd H a (.tup [.int (p2.2 - e - (p1.2 + e)), .int (p2.1 - p1.1)])) b (.tup [.int (q2.2 + e - (q1.2 - e)), .int (q2.1 - q1.1)]) = G at S2 ha2 hb2
      have r1 : Md (p2.2 - e - (p1.2 + e)) := by
        have := m1.2
        have := m2.2
        have := PK.se
        unfold Sm at *
        unfold Md
        omega
      have r2 : Md (q2.2 + e - (q1.2 - e)) := by
        have := m3.2
        have := m4.2
        have := PK.se
        unfold Sm at *
        unfold Md
        omega
      refine ⟨_, rfl, _, _, _, _, rfl, rfl, SqT.of (ha2), rfl, _, rfl, _, _, _, _, rfl, rfl, SqT.of (ha2), rfl, _, _, rfl, by omega, sm_sub m2.1 m1.1, fun n1 d1 d1p d1l e1 ⟨x1, x1p, x1e⟩ c nc => ?_⟩
      have S3 := same_upd (o := .tup [.int n1, .int d1]) nc
      refine ⟨_, rfl, _, _, _, _, rfl, rfl, SqT.of (S3 _ _ hb2), rfl, _, rfl, _, _, _, _, rfl, rfl, SqT.of (S3 _ _ hb2), rfl, _, _, rfl, by omega, sm_sub m4.1 m3.1, fun n2 d2 d2p d2l e2 ⟨x2, x2p, x2e⟩ d nd => ?_⟩
      have S4 := sameU (o := .tup [.int n2, .int d2]) S3 nd
      refine ⟨_, _, (n1, d1), (n2, d2), rfl, ⟨c, rfl, same_upd nd _ _ upd_same⟩, ⟨d, rfl, upd_same⟩, fun H5 v5 S5 i5 => ?_⟩
      have S6 : Same H H5 := (S2.trans S4).trans S5
      have SL : SlopeOK e pts (sb (n1, d1) (n2, d2)).1 (sb (n1, d1) (n2, d2)).2 := slope_sb FO SO F.pairs d1p d2p (by show n1 * (p2.1 - p1.1) = _ * d1; rw [e1]; grind) (by show n2 * (q2.1 - q1.1) = _ * d2; rw [e2]; grind)
      have md1 : Md (sb (n1, d1) (n2, d2)).1 ∧ Md (sb (n1, d1) (n2, d2)).2 := by
        have a1 := quot_md x1p x1e r1
        have a2 := quot_md x2p x2e r2
        have b1 := sm_sub m2.1 m1.1
        have b2 := sm_sub m4.1 m3.1
        unfold sb
        split
        · exact ⟨a1, by unfold Md at *; show -1152921504606846976 < d1 ∧ d1 < 1152921504606846976; omega⟩
        · split
          · exact ⟨a2, by unfold Md at *; show -1152921504606846976 < d2 ∧ d2 < 1152921504606846976; omega⟩
          · exact ⟨by unfold Md; decide, by unfold Md; decide⟩
      refine ⟨_, rfl, _, _, _, _, _, rfl, S6 _ _ hf, FC.cl, FC.points, rfl, _, rfl, _, _, _, _, _, rfl, S6 _ _ hf, FC.cl, FC.error, rfl, _, rfl, _, _, pts, e, _, _, rfl, LsOf.same IsPt.mono S6 hP, i5, PK.sm, PK.se, md1.1, hne, Nat.le_trans PK.len (by decide), fun H7 v7 m S7 hm hmax i7 => ?_⟩
      exact k H7 v7 _ _ _ (S6.trans S7) i7 SL.pos (SL.near PK.he PK.asc.inj hm hmax) (md_lg md1.1) (lowQ_lg md1.1 md1.2 PK.se (PK.sm m hm)) (md_lg md1.2)
/-! ### a new Fitter, a Cutting -/
def spFitInit (CF : Addr) : Sp := fun vs H Q _ => ∃ x dx e, vs = [.ref x, .int e] ∧ H x = some (.ins CF dx []) ∧ Sm e ∧ 0 ≤ e ∧
  ∀ H' own, (∀ b o, H b = some o → b ≠ x → H' b = some o) → FitAt H' x CF e [] own → (∀ b ∈ own, b = x ∨ H b = none) → Q .non H'
abbrev s_Fitter_init : Stmt := inClass (topS 14) 0
abbrev N_Fitter_init : List Str := ["self", "error"]
theorem sc_Fitter_init : FnScope N_Fitter_init ["self", "error"] (defScope s_Fitter_init) := ⟨rfl, rfl, rfl, by decide +kernel, rfl, by decide +kernel, by decide +kernel⟩
theorem bd_Fitter_init : BindsN "__init__" "Fitter.__init__" s_Fitter_init ["self", "error"] := fun _ _ _ _ _ _ us hl => match us, hl with | [_, _], _ => rfl
theorem ok_Fitter_init (T : Txt mg) (FC : FitC K CF) (D : InitAt K mg "Fitter" CF "Fitter.__init__" s_Fitter_init) : C8.Mak P w K mg base 1 "Fitter" CF (spFitInit CF) [] := by
  refine mak_of D sc_Fitter_init bd_Fitter_init (fun vs H Q E h => ?_) (fun f cdv A outer s H vs Q E hr h => ?_)
  · obtain ⟨x, dx, e, rfl, _⟩ := h
    rfl
  · obtain ⟨x, dx, e, rfl, hx, se, he, k⟩ := h
    refine ⟨_, (pss_cons (ps_fld (pv 0) (pv 1) rfl)
      (pss_cons (ps_fld (pv 0) pe_int rfl)
      (pss_cons (ps_fld (pv 0) (pe_lst pa_nil) rfl)
      (pss_cons (ps_fld (pv 0) (pe_lst pa_nil) rfl)
      (pss_cons (ps_fld (pv 0) (pe_lst pa_nil) rfl)
      (pss_cons (ps_fld (pv 0) (pe_tup pa_nil) rfl)
      (pss_one (ps_fld (pv 0) (pe_tup pa_nil) rfl)))))))), ?_⟩
    refine ⟨_, rfl, _, rfl, x, CF, dx, _, rfl, hx, FC.cl, FC.error, (by show 0 < 1000; decide), ?_⟩
    refine ⟨_, rfl, x, CF, dx, _, rfl, upd_same, FC.cl, FC.count, (by show 1 < 1000; decide), ?_⟩
    rw [upd_upd]
    refine ⟨Nat.zero_le _, fun aP nP => ⟨_, rfl, x, CF, dx, _, rfl, same_upd nP _ _ upd_same, FC.cl, FC.points, (by show 2 < 1000; decide), ?_⟩⟩
    have nxP : x ≠ aP := ne_of_none upd_same nP
    refine ⟨Nat.zero_le _, fun aT nT => ⟨_, rfl, x, CF, dx, _, rfl, same_upd nT _ _ upd_same, FC.cl, FC.tops, (by show 3 < 1000; decide), ?_⟩⟩
    have nxT : x ≠ aT := ne_of_none upd_same nT
    refine ⟨Nat.zero_le _, fun aB nB => ⟨_, rfl, x, CF, dx, _, rfl, same_upd nB _ _ upd_same, FC.cl, FC.bottoms, (by show 4 < 1000; decide), ?_⟩⟩
    have nxB : x ≠ aB := ne_of_none upd_same nB
    refine ⟨Nat.zero_le _, fun t1 n1 => ⟨_, rfl, x, CF, dx, _, rfl, same_upd n1 _ _ upd_same, FC.cl, FC.flat, (by show 5 < 1000; decide), ?_⟩⟩
    have nx1 : x ≠ t1 := ne_of_none upd_same n1
    refine ⟨Nat.zero_le _, fun t2 n2 => ⟨_, rfl, x, CF, dx, _, rfl, same_upd n2 _ _ upd_same, FC.cl, FC.steep, (by show 6 < 1000; decide), ?_⟩⟩
    have nx2 : x ≠ t2 := ne_of_none upd_same n2
    -- what stands where
    have stp : ∀ {G : Hp} {a : Addr} {o1 o2 : HO} {b : Addr} {o : HO}, G a = none → G b = some o → b ≠ x → (upd (upd G a o1) x o2) b = some o := fun {G a o1 o2 b o} na hb hbx => by
      rw [upd_ne hbx]
      exact same_upd na _ _ hb
    have new : ∀ {G : Hp} {a : Addr} {o1 o2 : HO}, x ≠ a → (upd (upd G a o1) x o2) a = some o1 := fun {G a o1 o2} hxa => by
      rw [upd_ne hxa.symm]
      exact upd_same
    have hP1 := new (G := upd H x (.ins CF dx (putF "count" (.int 0) (putF "error" (.int e) [])))) (o1 := .lst []) (o2 := .ins CF dx (putF "_points" (.ref aP) (putF "count" (.int 0) (putF "error" (.int e) [])))) nxP
    have nPT : aP ≠ aT := ne_of_none hP1 nT
    have hP2 := stp (o1 := .lst []) (o2 := .ins CF dx (putF "_tops" (.ref aT) (putF "_points" (.ref aP) (putF "count" (.int 0) (putF "error" (.int e) []))))) nT hP1 nxP.symm
    have nPB : aP ≠ aB := ne_of_none hP2 nB
    have hT2 := new (G := upd (upd (upd H x (.ins CF dx (putF "count" (.int 0) (putF "error" (.int e) [])))) aP (.lst [])) x (.ins CF dx (putF "_points" (.ref aP) (putF "count" (.int 0) (putF "error" (.int e) []))))) (o1 := .lst []) (o2 := .ins CF dx (putF "_tops" (.ref aT) (putF "_points" (.ref aP) (putF "count" (.int 0) (putF "error" (.int e) []))))) nxT
    have nTB : aT ≠ aB := ne_of_none hT2 nB
    refine k _ [x, aP, aT, aB] (fun b o q ne => ?_) ⟨⟨aP, aT, aB, dx, .ref t1, .ref t2, [], [], rfl, upd_same, ⟨[], ?_, .nil⟩, ⟨[], ?_, .nil⟩, ⟨[], ?_, .nil⟩, nPT, nPB, nTB, ⟨fun c hc => (by cases hc), fun c hc => (by cases hc), .nil, .nil, fun z => absurd rfl z, fun z => absurd rfl z, Nat.le_refl _, Nat.le_refl _, fun X _ p hp => (by cases hp), fun X _ p hp => (by cases hp)⟩, fun z => (by simp at z)⟩,
      ⟨.nil, fun p hp => (by cases hp), se, he, Nat.zero_le _⟩, fun p hp => (by cases hp)⟩ (fun b hb => ?_)
    · refine stp n2 (stp n1 (stp nB (stp nT (stp nP ?_ ne) ne) ne) ne) ne
      rw [upd_ne ne]
      exact q
    · exact stp n2 (stp n1 (stp nB hP2 nxP.symm) nxP.symm) nxP.symm
    · exact stp n2 (stp n1 (stp nB hT2 nxT.symm) nxT.symm) nxT.symm
    · exact stp n2 (stp n1 (new nxB) nxB.symm) nxB.symm
    · simp only [List.mem_cons, List.not_mem_nil, or_false] at hb
      have un : ∀ {G : Hp} {a b : Addr} {o1 o2 : HO}, (upd (upd G a o1) x o2) b = none → G b = none := fun {G a b o1 o2} h => by
        by_cases h1 : b = x
        · rw [h1, upd_same] at h
          cases h
        · rw [upd_ne h1] at h
          by_cases h2 : b = a
          · rw [h2, upd_same] at h
            cases h
          · rw [upd_ne h2] at h
            exact h
      have un1 : ∀ {b : Addr} {o2 : HO}, upd H x o2 b = none → H b = none := fun {b o2} h => by
        by_cases h1 : b = x
        · rw [h1, upd_same] at h
          cases h
        · rw [upd_ne h1] at h
          exact h
      rcases hb with rfl | rfl | rfl | rfl
      · exact .inl rfl
      · exact .inr (un1 nP)
      · exact .inr (un1 (un nT))
      · exact .inr (un1 (un (un nB)))
end
end KW
namespace KW
open PySem PySem.Spec PyProof.Rows L2 KG
/-! ### a Cutting -/
structure CutC (K : PySem.W.Frag) (CC : Addr) : Prop where
  cl : Cls K CC
  pieces : NoAttr K CC "pieces"
  reasons : NoAttr K CC "reasons"
def CutAt (H : Hp) (x CC : Addr) (ps : List Pc) (rs : List L3) : Prop := ∃ dx l1 l2, H x = some (.ins CC dx [("pieces", .ref l1), ("reasons", .ref l2)]) ∧ LsOf IsPc H l1 ps ∧ LsOf IsTri H l2 rs
theorem CutAt.same {H H' : Hp} {x CC : Addr} {ps : List Pc} {rs : List L3} (s : Same H H') (h : CutAt H x CC ps rs) : CutAt H' x CC ps rs := by
  obtain ⟨dx, l1, l2, h1, h2, h3⟩ := h
  exact ⟨dx, l1, l2, s _ _ h1, LsOf.same IsPc.mono s h2, LsOf.same IsTri.mono s h3⟩
/-- numbers that are written in at most forty digits -/
structure NumsOK (ps : List Pc) (rs : List L3) : Prop where
  p : ∀ p ∈ ps, 0 ≤ p.1 ∧ Lg p.1 ∧ Lg p.2.1 ∧ Lg p.2.2.1 ∧ 0 ≤ p.2.2.2 ∧ Lg p.2.2.2
  r : ∀ r ∈ rs, 0 ≤ r.1 ∧ Lg r.1 ∧ 0 ≤ r.2.1 ∧ Lg r.2.1 ∧ 0 ≤ r.2.2 ∧ Lg r.2.2
theorem nat_lg {n : Nat} (h : n ≤ 1000000) : Lg (n : Int) := by
  unfold Lg
  omega
section
variable {P : Program} {w : World} {K : PySem.W.Frag} {mg : Str → Option Value} {base : Heap} {CF CC : Addr}
def spCutInit (CC : Addr) : Sp := fun vs H Q _ => ∃ x dx a b v1 v2, vs = [.ref x, .ref a, .ref b] ∧ H x = some (.ins CC dx []) ∧ H a = some (.lst v1) ∧ H b = some (.lst v2) ∧
  ∀ H' l1 l2 dx', (∀ b o, H b = some o → b ≠ x → H' b = some o) → H' x = some (.ins CC dx' [("pieces", .ref l1), ("reasons", .ref l2)]) → H' l1 = some (.lst v1) → H' l2 = some (.lst v2) → Q .non H'
abbrev s_Cutting_init : Stmt := inClass (topS 16) 0
abbrev N_Cutting_init : List Str := ["self", "pieces", "reasons"]
theorem sc_Cutting_init : FnScope N_Cutting_init ["self", "pieces", "reasons"] (defScope s_Cutting_init) := ⟨rfl, rfl, rfl, by decide +kernel, rfl, by decide +kernel, by decide +kernel⟩
theorem bd_Cutting_init : BindsN "__init__" "Cutting.__init__" s_Cutting_init ["self", "pieces", "reasons"] := fun _ _ _ _ _ _ us hl => match us, hl with | [_, _, _], _ => rfl
theorem ok_Cutting_init (T : Txt mg) (FC : CutC K CC) (D : InitAt K mg "Cutting" CC "Cutting.__init__" s_Cutting_init) : C8.Mak P w K mg base 1 "Cutting" CC (spCutInit CC) [] := by
  refine mak_of D sc_Cutting_init bd_Cutting_init (fun vs H Q E h => ?_) (fun f cdv A outer s H vs Q E hr h => ?_)
  · obtain ⟨x, dx, a, b, v1, v2, rfl, _⟩ := h
    rfl
  · obtain ⟨x, dx, a, b, v1, v2, rfl, hx, ha, hb, k⟩ := h
    have nxa : x ≠ a := ne_of hx ha (by intro z; cases z)
    have nxb : x ≠ b := ne_of hx hb (by intro z; cases z)
    refine ⟨_, (pss_cons (ps_fld (pv 0) (pe_callTy call_list_of (by rfl) T.lst (by decide +kernel) (pa_cons (pv 1) pa_nil)) rfl)
      (pss_one (ps_fld (pv 0) (pe_callTy call_list_of (by rfl) T.lst (by decide +kernel) (pa_cons (pv 2) pa_nil)) rfl))), ?_⟩
    refine ⟨_, rfl, _, _, rfl, .inl (SqL.of ha), fun l1 n1 => ⟨_, rfl, x, CC, dx, _, rfl, same_upd n1 _ _ hx, FC.cl, FC.pieces, (by show 0 < 1000; decide), ?_⟩⟩
    have nx1 : x ≠ l1 := ne_of_none hx n1
    have hb1 : (upd (upd H l1 (.lst v1)) x (.ins CC dx (putF "pieces" (.ref l1) []))) b = some (.lst v2) := by
      rw [upd_ne nxb.symm]
      exact same_upd n1 _ _ hb
    have hl1 : (upd (upd H l1 (.lst v1)) x (.ins CC dx (putF "pieces" (.ref l1) []))) l1 = some (.lst v1) := by
      rw [upd_ne nx1.symm]
      exact upd_same
    refine ⟨_, rfl, _, _, rfl, .inl (SqL.of hb1), fun l2 n2 => ⟨_, rfl, x, CC, dx, _, rfl, same_upd n2 _ _ upd_same, FC.cl, FC.reasons, (by show 1 < 1000; decide), ?_⟩⟩
    have nx2 : x ≠ l2 := ne_of_none upd_same n2
    refine k _ l1 l2 dx (fun c o q ne => ?_) upd_same ?_ ?_
    · rw [upd_ne ne]
      refine same_upd n2 _ _ ?_
      rw [upd_ne ne]
      exact same_upd n1 _ _ q
    · rw [upd_ne nx1.symm]
      exact same_upd n2 _ _ hl1
    · rw [upd_ne nx2.symm]
      exact upd_same
/-! ### cut -/
theorem FitAt.same {H H' : Hp} {f CF : Addr} {e : Int} {pts : List P2} {own : List Addr} (s : Same H H') (h : FitAt H f CF e pts own) : FitAt H' f CF e pts own := by
  obtain ⟨⟨aP, aT, aB, dx, fv, sv, tops, bots, h0, h1, h2, h3, h4, h5, h6, h7, h8, h9⟩, h10, h11⟩ := h
  exact ⟨⟨aP, aT, aB, dx, fv, sv, tops, bots, h0, s _ _ h1, LsOf.same IsPt.mono s h2, LsOf.same IsTri.mono s h3, LsOf.same IsTri.mono s h4, h5, h6, h7, h8, fun z => ⟨(h9 z).1.mono (sameT s), (h9 z).2.mono (sameT s)⟩⟩, h10, h11⟩
theorem FitAt.tup {H : Hp} {f CF : Addr} {e : Int} {pts : List P2} {own : List Addr} (h : FitAt H f CF e pts own) : ∀ b xs, H b = some (.tup xs) → b ∉ own := by
  obtain ⟨⟨aP, aT, aB, dx, fv, sv, tops, bots, rfl, h1, h2, h3, h4, _⟩, _⟩ := h
  intro b xs q hm
  simp only [List.mem_cons, List.not_mem_nil, or_false] at hm
  rcases hm with rfl | rfl | rfl | rfl
  · rw [h1] at q; cases q
  · rw [h2.choose_spec.1] at q; cases q
  · rw [h3.choose_spec.1] at q; cases q
  · rw [h4.choose_spec.1] at q; cases q
theorem FitAt.obj {H : Hp} {f CF : Addr} {e : Int} {pts : List P2} {own : List Addr} (h : FitAt H f CF e pts own) : ∃ dx n aP aT aB fv sv, H f = some (.ins CF dx (fitF e n aP aT aB fv sv)) := by
  obtain ⟨⟨aP, aT, aB, dx, fv, sv, tops, bots, rfl, h1, _⟩, _⟩ := h
  exact ⟨_, _, _, _, _, _, _, h1⟩
structure CutSt (H0 H' : Hp) (e : Int) (pts : List P2) (CF aP aR fit : Addr) (s k : Nat) (ps : List Pc) (rs : List L3) (own : List Addr) : Prop where
  same : Same H0 H'
  hp : LsOf IsPc H' aP ps
  hr : LsOf IsTri H' aR rs
  nP : H0 aP = none
  nR : H0 aR = none
  ne : aP ≠ aR
  fit : FitAt H' fit CF e (slc pts s k) own
  own : ∀ b ∈ own, H0 b = none ∧ b ≠ aP ∧ b ≠ aR
  nums : NumsOK ps rs
theorem CutSt.up {H0 H' H2 : Hp} {e : Int} {pts : List P2} {CF aP aR fit : Addr} {s k : Nat} {ps : List Pc} {rs : List L3} {own : List Addr} (C : CutSt H0 H' e pts CF aP aR fit s k ps rs own) (S : Same H' H2) : CutSt H0 H2 e pts CF aP aR fit s k ps rs own :=
  ⟨C.same.trans S, LsOf.same IsPc.mono S C.hp, LsOf.same IsTri.mono S C.hr, C.nP, C.nR, C.ne, C.fit.same S, C.own, C.nums⟩
theorem part_len {pts : List P2} {e : Int} {ps : List Pc} {rs : List L3} {s k : Nat} (h : Part pts e ps rs s k) : ps.length ≤ s := by
  have h1 : ∀ (j : Nat) (a : Int), (ps.map (·.1) ++ [(s : Int)])[j]? = some a → (j : Int) ≤ a := by
    intro j
    induction j with
    | zero =>
      intro a ha
      have := h.first
      rw [ha] at this
      have := Option.some.inj this
      omega
    | succ j ih =>
      intro a ha
      have hj : j < (ps.map (·.1) ++ [(s : Int)]).length := by have := (List.getElem?_eq_some_iff.mp ha).1; omega
      have g := List.getElem?_eq_getElem hj
      have := ih _ g
      have := h.asc j _ _ g ha
      omega
  have := h1 ps.length s (by rw [List.getElem?_append_right (by rw [List.length_map]; exact Nat.le_refl _), List.length_map, Nat.sub_self]; rfl)
  omega
def spCut (CC : Addr) : Sp := fun vs H Q _ => ∃ a pts e, vs = [.ref a, .int e] ∧ LsOf IsPt H a pts ∧ PtsOK e pts ∧ ∀ H' c ps rs, Same H H' → CutAt H' c CC ps rs → Judged pts e ps rs → NumsOK ps rs → Q (.ref c) H'
abbrev s_cut : Stmt := topS 17
abbrev N_cut : List Str := ["points", "error", "pieces", "reasons", "start", "fitter", "position", "point", "found"]
theorem sc_cut : FnScope N_cut ["points", "error"] (defScope s_cut) := ⟨rfl, rfl, rfl, by decide +kernel, rfl, by decide +kernel, by decide +kernel⟩
theorem bd_cut : BindsN "cut" "cut" s_cut ["points", "error"] := fun _ _ _ _ _ _ us hl => match us, hl with | [_, _], _ => rfl
theorem ok_cut (T : Txt mg) (D : DefAt K mg "cut" s_cut) (c_Fitter : C8.Mak P w K mg base 1 "Fitter" CF (spFitInit CF) []) (c_Fitter_conflict : C8.Met P w K mg base 2 CF "conflict" (spConflict CF) []) (c_Fitter_line : C8.Met P w K mg base 3 CF "line" (spLine CF) [])
    (c_Fitter_add : C8.Met P w K mg base 3 CF "add" (spAdd CF) []) (c_Cutting : C8.Mak P w K mg base 1 "Cutting" CC (spCutInit CC) []) : Cal P w K mg base 5 "cut" (spCut CC) [] := by
  refine cal_of D sc_cut bd_cut (fun vs H Q E h => ?_) (fun f cdv A outer s H vs Q E hr h => ?_)
  · obtain ⟨a, pts, e, rfl, _⟩ := h
    rfl
  · obtain ⟨a, pts, e, rfl, ⟨vs, ha, hvs⟩, PK, k⟩ := h
    have hL : vs.length = pts.length := hvs.length
    have mkNew : ∀ {H1 H2 : Hp} {x dx : Addr} {own : List Addr}, H1 x = none → H1 dx = none → (∀ b o, (upd (upd H1 dx (.own x)) x (.ins CF dx [])) b = some o → b ≠ x → H2 b = some o) → (∀ b ∈ own, b = x ∨ (upd (upd H1 dx (.own x)) x (.ins CF dx [])) b = none) →
        Same H1 H2 ∧ ∀ b ∈ own, H1 b = none := fun {H1 H2 x dx own} nx nd kp ow => ⟨Same.made nx nd kp, fun b hb => by
      rcases ow b hb with rfl | q
      · exact nx
      · by_cases h1 : b = x
        · rw [h1]
          exact nx
        · rw [upd_ne h1] at q
          by_cases h2 : b = dx
          · rw [h2]
            exact nd
          · rw [upd_ne h2] at q
            exact q⟩
    refine ⟨_, (pss_cons (ps_set (i := 2) sc_cut.nd rfl (.inl rfl) (pe_lst pa_nil))
      (pss_cons (ps_set (i := 3) sc_cut.nd rfl (.inl rfl) (pe_lst pa_nil))
      (pss_cons (ps_set (i := 4) sc_cut.nd rfl (.inl rfl) pe_int)
      (pss_cons (ps_set (i := 5) sc_cut.nd rfl (.inl rfl) (C8.pe_mk c_Fitter hr (by decide) (by rfl) (pa_cons (pv 1) pa_nil)))
      (pss_cons (ps_for PassesOwn.never rfl (pi_enum (by rfl) T.enumerate (pa_cons (pv 0) pa_nil)) (pg_tup (by rfl) (pgs_cons (pg_name (i := 6) sc_cut.nd rfl (.inl rfl)) (pgs_cons (pg_name (i := 7) sc_cut.nd rfl (.inl rfl)) pgs_nil))) (C8.pss_cut (ps_set (i := 8) sc_cut.nd rfl (.inl rfl) (C8.pe_mt c_Fitter_conflict hr (by decide) (pv 5) (pa_cons (pv 7) pa_nil)))
        (C8.pss_cut (ps_if (pt_cmpR op_notN (pv 8) pe_non (nomark _)) (pss_cons (ps_expr (pe_bm PySem.F.plainAttrs_list PySem.F.slot_list_append PySem.F.type_list_append mt_append (pv 2) (pa_cons (pe_tup (pa_cons (pv 4) (pa_cons (C8.pe_mt0 c_Fitter_line hr (by decide) (pv 5)) pa_nil))) pa_nil)))
          (pss_cons (ps_expr (pe_bm PySem.F.plainAttrs_list PySem.F.slot_list_append PySem.F.type_list_append mt_append (pv 3) (pa_cons (pe_tup (pa_cons (pe_op op_add (pv 4) (pe_ix ix_tup (pv 8) pe_int (fun _ _ => rfl))) (pa_cons (pe_op op_add (pv 4) (pe_ix ix_tup (pv 8) pe_int (fun _ _ => rfl))) (pa_cons (pv 6) pa_nil)))) pa_nil)))
          (pss_cons (ps_set (i := 4) sc_cut.nd rfl (.inl rfl) (pv 6))
          (pss_one (ps_set (i := 5) sc_cut.nd rfl (.inl rfl) (C8.pe_mk c_Fitter hr (by decide) (by rfl) (pa_cons (pv 1) pa_nil))))))) pss_nil)
        (pss_one (ps_expr (C8.pe_mt c_Fitter_add hr (by decide) (pv 5) (pa_cons (pv 7) pa_nil)))))))
      (C8.pss_cut (ps_if (pt_truth (pv 0) (by intro _; rfl)) (pss_one (ps_expr (pe_bm PySem.F.plainAttrs_list PySem.F.slot_list_append PySem.F.type_list_append mt_append (pv 2) (pa_cons (pe_tup (pa_cons (pv 4) (pa_cons (C8.pe_mt0 c_Fitter_line hr (by decide) (pv 5)) pa_nil))) pa_nil)))) pss_nil)
      (pss_one (ps_ret (C8.pe_mk c_Cutting hr (by decide) (by rfl) (pa_cons (pv 2) (pa_cons (pv 3) pa_nil))))))))))), ?_⟩
    refine ⟨Nat.zero_le _, fun aP nP => ⟨Nat.zero_le _, fun aR nR => ⟨_, rfl, fun fx dx nx nd _ => ⟨fx, dx, e, rfl, upd_same, PK.se, PK.he, fun H1 own kp F ow => ⟨rfl, ?_⟩⟩⟩⟩⟩
    have S0 := sameU (o := .lst []) (same_upd (o := .lst []) nP) nR
    have nPR : aP ≠ aR := ne_of_none upd_same nR
    have nR0 : H aR = none := Same.free (same_upd nP) nR
    obtain ⟨S1, ow1⟩ := mkNew nx nd kp ow
    have hP1 : H1 aP = some (.lst []) := S1 _ _ (same_upd nR _ _ upd_same)
    have hR1 : H1 aR = some (.lst []) := S1 _ _ upd_same
    have C0 : CutSt H H1 e pts CF aP aR fx 0 0 [] [] own := ⟨S0.trans S1, ⟨[], hP1, .nil⟩, ⟨[], hR1, .nil⟩, nP, nR0, nPR, by rw [slc_self]; exact F, fun b hb => ⟨Same.free S0 (ow1 b hb), fun (z : b = aP) => (by
      have := ow1 b hb
      rw [z, same_upd nR _ _ upd_same] at this
      cases this), fun (z : b = aR) => (by
      have := ow1 b hb
      rw [z, upd_same] at this
      cases this)⟩, ⟨fun p hp => (by cases hp), fun p hp => (by cases hp)⟩⟩
    refine ⟨_, rfl, a, vs, rfl, SqL.of (S1 _ _ (S0 _ _ ha)), for_enum (K := K) (a := a) (xs := vs) (fun i σ H' => ∃ fit s ps rs own y6 y7 y8, σ = [some (.ref a), some (.int e), some (.ref aP), some (.ref aR), some (.int (s : Nat)), some (.ref fit), y6, y7, y8] ∧ CutSt H H' e pts CF aP aR fit s i ps rs own ∧ Part pts e ps rs s i)
      ⟨fx, 0, [], [], own, none, none, none, rfl, C0, part_zero⟩ (fun i σ H' _ h => by
        obtain ⟨_, _, _, _, _, _, _, _, _, C, _⟩ := h
        exact SqL.of (C.same _ _ ha)) ?_ ?_⟩
    · rintro i x σ H' Tp hx ⟨fit, s, ps, rs, own, y6, y7, y8, rfl, C, PA⟩ nT
      obtain ⟨n, hn, hxn⟩ := paired_get hvs hx
      have hi : i < pts.length := (List.getElem?_eq_some_iff.mp hn).1
      have sle := PA.le
      have S2 := same_upd (o := .tup [.int (i : Int), x]) nT
      have C2 := C.up S2
      refine ⟨Tp, _, rfl, SqT.of upd_same, rfl, _, _, rfl, _, _, rfl, rfl, ?_⟩
      generalize upd H' Tp (.tup [.int (i : Int), x]) = G at C2
      have hxG := IsPt.mono _ _ _ _ (sameT C2.same) hxn
      obtain ⟨dx, m, b1, b2, b3, fv, sv, hfo⟩ := C2.fit.obj
      have nm := List.mem_of_getElem? hn
      have sn := PK.sm n nm
      have hlt : ∀ p ∈ slc pts s i, p.1 < n.1 := fun p hp => by
        obtain ⟨j, hj⟩ := List.mem_iff_getElem?.mp hp
        rw [slc_get] at hj
        split at hj
        · exact asc_at PK.asc hj hn (by omega)
        · cases hj
      refine ⟨fun st H2 => ∃ fv, st = [some (.ref a), some (.int e), some (.ref aP), some (.ref aR), some (.int (s : Nat)), some (.ref fit), some (.int (i : Int)), some x, some fv] ∧ CutSt H H2 e pts CF aP aR fit s i ps rs own ∧
        ((fv = .non ∧ PairsOK e (slc pts s i ++ [n])) ∨ ∃ (i1 j1 : Nat) (p q : P2), IsPt H2 fv ((i1 : Int), (j1 : Int)) ∧ i1 < j1 ∧ (slc pts s i)[i1]? = some p ∧ (slc pts s i)[j1]? = some q ∧ three p q n e = false), ?_, ?_⟩
      · refine ⟨_, rfl, fit, dx, _, rfl, hfo, fit_no.1, _, rfl, fit, x, e, _, own, n, rfl, C2.fit, hxG, sn, hlt, fun H2 S3 PR => ?_, fun H2 v2 i1 j1 p q S3 hv2 hij g1 g2 h3 hpq => ?_⟩
        · exact ⟨_, rfl, C2.up S3, .inl ⟨rfl, PR⟩⟩
        · exact ⟨_, rfl, C2.up S3, .inr ⟨i1, j1, p, q, hv2, hij, g1, g2, h3⟩⟩
      · rintro st H2 ⟨fv, rfl, C3, hfv⟩
        refine ⟨fun st H2 => ∃ fit s ps rs own y8, st = [some (.ref a), some (.int e), some (.ref aP), some (.ref aR), some (.int (s : Nat)), some (.ref fit), some (.int (i : Int)), some x, y8] ∧ CutSt H H2 e pts CF aP aR fit s i ps rs own ∧ Part pts e ps rs s (i + 1) ∧ PairsOK e (slc pts s i ++ [n]), ?_, ?_⟩
        · rcases hfv with ⟨rfl, PR⟩ | ⟨i1, j1, p, q, ⟨tf, rfl, hv2⟩, hij, g1, g2, h3⟩
          · refine ⟨_, rfl, rfl, _, rfl, ite2 (fun c => by simp at c) (fun _ => ?_)⟩
            exact ⟨fit, s, ps, rs, own, _, rfl, C3, PA.keep, PR⟩
          · refine ⟨_, rfl, rfl, _, rfl, ite2 (fun _ => ?_) (fun c => by simp at c)⟩
            have g1' := g1
            have g2' := g2
            rw [slc_get] at g1' g2'
            have li : i1 < i - s := by
              split at g1'
              · assumption
              · cases g1'
            have lj : j1 < i - s := by
              split at g2'
              · assumption
              · cases g2'
            rw [if_pos li] at g1'
            rw [if_pos lj] at g2'
            have hne : slc pts s i ≠ [] := fun z => by
              rw [z] at g1
              simp at g1
            obtain ⟨dx3, m3, b31, b32, b33, fv3, sv3, hfo3⟩ := C3.fit.obj
            obtain ⟨pv, hP3, hps3⟩ := C3.hp
            obtain ⟨rv, hR3, hrs3⟩ := C3.hr
            have pl := part_len PA
            -- pieces.append((start, fitter.line()))
            refine ⟨_, rfl, .inl ⟨rfl, _, SqL.of hP3⟩, _, rfl, _, rfl, fit, dx3, _, rfl, hfo3, fit_no.2.2.2.2.2, fit, e, _, own, rfl, C3.fit, hne, fun H4 vL lp lq ld S4 iL d1 nr gp gq gd => ⟨(by show 2 ≤ sizeLine; decide), fun t nt => ⟨aP, pv, .ref t, rfl, rfl, same_upd nt _ _ (S4 _ _ hP3), small1000 (by rw [hps3.length]; have := PK.len; omega), ?_⟩⟩⟩
            have S5 := sameU (o := .tup [.int (s : Nat), vL]) S4 nt
            have iL5 : IsTri (upd H4 t (.tup [.int (s : Nat), vL])) vL (lp, lq, ld) := IsTri.mono _ _ _ _ (sameT (same_upd nt)) iL
            have ht5 : (upd H4 t (.tup [.int (s : Nat), vL])) t = some (.tup [.int (s : Nat), vL]) := upd_same
            generalize upd H4 t (.tup [.int (s : Nat), vL]) = G5 at S5 iL5 ht5
            have hP5 := S5 _ _ hP3
            have hR5 := S5 _ _ hR3
            have tr6 : ∀ b xs, G5 b = some (.tup xs) → (upd G5 aP (.lst (pv ++ [.ref t]))) b = some (.tup xs) := fun b xs q => by
              rw [upd_ne (ne_of q hP5 (by intro z; cases z))]
              exact q
            have hR6 : (upd G5 aP (.lst (pv ++ [.ref t]))) aR = some (.lst rv) := by
              rw [upd_ne C3.ne.symm]
              exact hR5
            -- reasons.append(..)
            refine ⟨_, rfl, .inl ⟨rfl, _, SqL.of hR6⟩, _, rfl, _, rfl, _, _, _, _, rfl, rfl, SqT.of (tr6 _ _ (S5 _ _ hv2)), rfl, _, _, rfl, rfl, _, rfl, _, rfl, _, _, _, _, rfl, rfl, SqT.of (tr6 _ _ (S5 _ _ hv2)), rfl, _, _, rfl, rfl, _, rfl, (by show 3 ≤ sizeLine; decide), fun t2 nt2 => ⟨aR, rv, .ref t2, rfl, rfl, same_upd nt2 _ _ hR6, small1000 (by rw [hrs3.length, PA.len]; have := PK.len; omega), ?_⟩⟩
            have np2 : aP ≠ t2 := ne_of_none upd_same nt2
            -- start = position; fitter = Fitter(error)
            refine ⟨_, rfl, _, rfl, fun fx dx' nx nd _ => ⟨fx, dx', e, rfl, upd_same, PK.se, PK.he, fun H7 own7 kp7 F7 ow7 => ⟨rfl, ?_⟩⟩⟩
            obtain ⟨S7, ow7'⟩ := mkNew nx nd kp7 ow7
            have keep6 : ∀ b o, H2 b = some o → b ≠ aP → b ≠ aR → H7 b = some o := fun b o q n1 n2 => S7 b o (by
              rw [upd_ne n2]
              refine same_upd nt2 _ _ ?_
              rw [upd_ne n1]
              exact S5 _ _ q)
            have tr7 : ∀ b xs, G5 b = some (.tup xs) → H7 b = some (.tup xs) := fun b xs q => S7 b _ (by
              rw [upd_ne (ne_of q hR5 (by intro z; cases z))]
              refine same_upd nt2 _ _ ?_
              exact tr6 b xs q)
            have tr72 : ∀ b xs, H2 b = some (.tup xs) → H7 b = some (.tup xs) := fun b xs q => tr7 b xs (S5 _ _ q)
            have hP7 : H7 aP = some (.lst (pv ++ [.ref t])) := S7 _ _ (by
              rw [upd_ne C3.ne]
              exact same_upd nt2 _ _ upd_same)
            have hR7 : H7 aR = some (.lst (rv ++ [.ref t2])) := S7 _ _ upd_same
            have ht27 : H7 t2 = some (.tup [.int ((s : Int) + (i1 : Int)), .int ((s : Int) + (j1 : Int)), .int (i : Int)]) := S7 _ _ (by
              rw [upd_ne (ne_of_none hR6 nt2).symm]
              exact upd_same)
            refine ⟨fx, i, ps ++ [((s : Int), (lp, lq, ld))], rs ++ [((s : Int) + (i1 : Int), (s : Int) + (j1 : Int), (i : Int))], own7, _, rfl, ⟨fun b o q => keep6 b o (C3.same _ _ q) (ne_of_none q C.nP) (ne_of_none q C.nR), ⟨_, hP7, ?_⟩, ⟨_, hR7, ?_⟩, C.nP, C.nR, C.ne, by rw [slc_self]; exact F7, fun b hb => ?_, ?_⟩, ?_, by rw [slc_self]; exact pairs_one⟩
            · exact paired_app (pairedSame IsPc.mono tr72 hps3) (.cons ⟨t, vL, rfl, tr7 _ _ ht5, IsTri.mono _ _ _ _ tr7 iL5⟩ .nil)
            · exact paired_app (pairedSame IsTri.mono tr72 hrs3) (.cons ⟨t2, rfl, ht27⟩ .nil)
            · have h1 := ow7' b hb
              have nbR : b ≠ aR := fun z => by
                rw [z, upd_same] at h1
                cases h1
              rw [upd_ne nbR] at h1
              have nb2 : b ≠ t2 := fun z => by
                rw [z, upd_same] at h1
                cases h1
              rw [upd_ne nb2] at h1
              have nbP : b ≠ aP := fun z => by
                rw [z, upd_same] at h1
                cases h1
              rw [upd_ne nbP] at h1
              exact ⟨Same.free (C3.same.trans S5) h1, nbP, nbR⟩
            · have il : i ≤ 900 := by have := PK.len; omega
              refine ⟨fun p hp => ?_, fun r hr => ?_⟩
              · rcases List.mem_append.mp hp with q | q
                · exact C.nums.p p q
                · rw [List.mem_singleton.mp q]
                  exact ⟨by show (0 : Int) ≤ (s : Nat); omega, nat_lg (by omega), gp, gq, by show 0 ≤ ld; omega, gd⟩
              · rcases List.mem_append.mp hr with q | q
                · exact C.nums.r r q
                · rw [List.mem_singleton.mp q]
                  refine ⟨by show (0 : Int) ≤ (s : Int) + i1; omega, ?_, by show (0 : Int) ≤ (s : Int) + j1; omega, ?_, by show (0 : Int) ≤ (i : Int); omega, nat_lg (by omega)⟩
                  · unfold Lg
                    show ((s : Int) + i1).natAbs < _
                    omega
                  · unfold Lg
                    show ((s : Int) + j1).natAbs < _
                    omega
            · refine PA.new (by omega) d1 (fun i' p' a1 a2 a3 => nr p' (slc_near a1 a2 a3)) ⟨by show (s : Int) ≤ (s : Int) + i1; omega, by show (s : Int) + i1 < (s : Int) + j1; omega, by show (s : Int) + j1 < (i : Int); omega, Int.le_refl _, s + i1, s + j1, i, p, q, n, by show (s : Int) + i1 = ((s + i1 : Nat) : Int); omega, by show (s : Int) + j1 = ((s + j1 : Nat) : Int); omega, rfl, g1', g2', hn, h3⟩
        · rintro st H3 ⟨fit', s', ps', rs', own', y8, rfl, C4, PA4, PR4⟩
          obtain ⟨dx4, m4, b41, b42, b43, fv4, sv4, hfo4⟩ := C4.fit.obj
          have hx4 := IsPt.mono _ _ _ _ (sameT C4.same) hxn
          have s4 := PA4.lt (by omega)
          have es := slc_snoc (s := s') (k := i) (by omega) hn
          refine ⟨_, rfl, fit', dx4, _, rfl, hfo4, fit_no.2.1, _, rfl, fit', x, e, _, own', n, rfl, C4.fit, hx4, ?_, PR4, fun H5 K5 F5 => ?_⟩
          · rw [← es]
            exact ⟨slc_asc PK.asc, fun p hp => PK.sm p (slc_mem hp), PK.se, PK.he, Nat.le_trans slc_len PK.len⟩
          · have tr5 : ∀ b xs, H3 b = some (.tup xs) → H5 b = some (.tup xs) := fun b xs q => K5 b _ q (C4.fit.tup b xs q)
            obtain ⟨pv, hP3, hps3⟩ := C4.hp
            obtain ⟨rv, hR3, hrs3⟩ := C4.hr
            rw [← es] at F5
            exact ⟨fit', s', ps', rs', own', _, _, _, rfl, ⟨fun b o q => K5 b o (C4.same _ _ q) (fun hm => by
                rw [(C4.own b hm).1] at q
                cases q), ⟨pv, K5 _ _ hP3 (fun hm => (C4.own _ hm).2.1 rfl), pairedSame IsPc.mono tr5 hps3⟩, ⟨rv, K5 _ _ hR3 (fun hm => (C4.own _ hm).2.2 rfl), pairedSame IsTri.mono tr5 hrs3⟩, C4.nP, C4.nR, C4.ne, F5, C4.own, C4.nums⟩, PA4⟩
    · rintro σ H' ⟨fit, s, ps, rs, own, y6, y7, y8, rfl, C, PA⟩
      rw [hL] at C PA
      have finish : ∀ {H2 : Hp} {ps2 : List Pc}, Same H H2 → LsOf IsPc H2 aP ps2 → LsOf IsTri H2 aR rs → Judged pts e ps2 rs → NumsOK ps2 rs → ∀ (x dx : Addr), H2 x = none → H2 dx = none → dx ≠ x → spCutInit CC [.ref x, .ref aP, .ref aR] (upd (upd H2 dx (.own x)) x (.ins CC dx [])) (fun v H3 => v = .non ∧ Q (.ref x) H3) C8.E0 := fun {H2 ps2} SS hp hr2 J N x dx nx nd ne => by
        obtain ⟨pv, hP3, hps3⟩ := hp
        obtain ⟨rv, hR3, hrs3⟩ := hr2
        have S9 : ∀ b o, H2 b = some o → (upd (upd H2 dx (.own x)) x (.ins CC dx [])) b = some o := fun b o q => by
          rw [upd_ne (ne_of_none q nx), upd_ne (ne_of_none q nd)]
          exact q
        refine ⟨x, dx, aP, aR, pv, rv, rfl, upd_same, S9 _ _ hP3, S9 _ _ hR3, fun H4 l1 l2 dx' kp h1 h2 h3 => ⟨rfl, ?_⟩⟩
        have S4 : Same H2 H4 := fun b o q => kp b o (S9 b o q) (ne_of_none q nx)
        exact k H4 x ps2 rs (SS.trans S4) ⟨dx', l1, l2, h1, ⟨pv, h2, pairedSame IsPc.mono (sameT S4) hps3⟩, ⟨rv, h3, pairedSame IsTri.mono (sameT S4) hrs3⟩⟩ J N
      refine ⟨fun st H2 => ∃ y2 y3 ps2, st = some (.ref a) :: some (.int e) :: some (.ref aP) :: some (.ref aR) :: y2 :: y3 ∧ Same H H2 ∧ LsOf IsPc H2 aP ps2 ∧ LsOf IsTri H2 aR rs ∧ Judged pts e ps2 rs ∧ NumsOK ps2 rs, ?_, ?_⟩
      · refine ⟨_, rfl, !vs.isEmpty, .inl ⟨vs, SqL.of (C.same _ _ ha), rfl⟩, ite2 (fun c => ?_) (fun c => ?_)⟩
        · have hp : 0 < pts.length := by
            rw [← hL]
            cases vs with
            | nil => simp at c
            | cons x r => simp
          have hs := PA.lt hp
          have hne : slc pts s pts.length ≠ [] := fun z => by
            have h0 : s < pts.length := hs
            have := slc_near (pts := pts) (s := s) (k := pts.length) (i := s) (Nat.le_refl _) h0 (List.getElem?_eq_getElem h0)
            rw [z] at this
            cases this
          obtain ⟨dx3, m3, b31, b32, b33, fv3, sv3, hfo3⟩ := C.fit.obj
          obtain ⟨pv, hP3, hps3⟩ := C.hp
          obtain ⟨rv, hR3, hrs3⟩ := C.hr
          have pl := part_len PA
          refine ⟨_, rfl, .inl ⟨rfl, _, SqL.of hP3⟩, _, rfl, _, rfl, fit, dx3, _, rfl, hfo3, fit_no.2.2.2.2.2, fit, e, _, own, rfl, C.fit, hne, fun H4 vL lp lq ld S4 iL d1 nr gp gq gd => ⟨(by show 2 ≤ sizeLine; decide), fun t nt => ⟨aP, pv, .ref t, rfl, rfl, same_upd nt _ _ (S4 _ _ hP3), small1000 (by rw [hps3.length]; have := PK.len; omega), ?_⟩⟩⟩
          have S5 := sameU (o := .tup [.int (s : Nat), vL]) S4 nt
          have hP5 := S5 _ _ hP3
          have hR5 := S5 _ _ hR3
          have tr6 : ∀ b xs, (upd H4 t (.tup [.int (s : Nat), vL])) b = some (.tup xs) → (upd (upd H4 t (.tup [.int (s : Nat), vL])) aP (.lst (pv ++ [.ref t]))) b = some (.tup xs) := fun b xs q => by
            rw [upd_ne (ne_of q hP5 (by intro z; cases z))]
            exact q
          refine ⟨_, _, ps ++ [((s : Int), (lp, lq, ld))], rfl, fun b o q => ?_, ⟨pv ++ [.ref t], upd_same, ?_⟩, ⟨rv, ?_, ?_⟩, .inr ⟨fun z => ?_, PA.done hp d1 (fun i' p' a1 a2 a3 => nr p' (slc_near a1 a2 a3))⟩, ?_, C.nums.r⟩
          · rw [upd_ne (ne_of_none q C.nP)]
            exact S5 _ _ (C.same _ _ q)
          · exact paired_app (pairedSame IsPc.mono (fun b xs q => tr6 b xs (S5 _ _ q)) hps3) (.cons ⟨t, vL, rfl, tr6 _ _ upd_same, IsTri.mono _ _ _ _ (fun b xs q => tr6 b xs (same_upd nt _ _ q)) iL⟩ .nil)
          · rw [upd_ne C.ne.symm]
            exact hR5
          · exact pairedSame IsTri.mono (fun b xs q => tr6 b xs (S5 _ _ q)) hrs3
          · rw [z] at hp
            simp at hp
          · intro p hp'
            rcases List.mem_append.mp hp' with q | q
            · exact C.nums.p p q
            · rw [List.mem_singleton.mp q]
              exact ⟨by show (0 : Int) ≤ (s : Nat); omega, nat_lg (by have := PK.len; omega), gp, gq, by show 0 ≤ ld; omega, gd⟩
        · have hp : pts = [] := by
            cases vs with
            | nil => exact List.length_eq_zero_iff.mp hL.symm
            | cons x r => simp at c
          subst hp
          have hps : ps = [] := by
            have := part_len PA
            have := PA.le
            exact List.length_eq_zero_iff.mp (by simp at this; omega)
          subst hps
          have hrs : rs = [] := List.length_eq_zero_iff.mp PA.len
          subst hrs
          exact ⟨_, _, [], rfl, C.same, C.hp, C.hr, .inl ⟨rfl, rfl, rfl⟩, C.nums⟩
      · rintro st H2 ⟨y2, y3, ps2, rfl, SS, hp, hr2, J, N⟩
        exact ⟨_, rfl, _, rfl, finish SS hp hr2 J N⟩
end
end KW
namespace KW
open PySem PySem.Spec PyProof.Rows L2 KG
/-! ### four comparisons in a row -/
def tInt2 (x y : V) (k : Int → Int → Prop) : Prop := ∃ i j, x = .int i ∧ y = .int j ∧ k i j
def tChain4 (ta tb tc td te : TE) : TT := fun σ H Q => ta σ H fun x H1 => tb σ H1 fun y H2 => tInt2 x y fun i j => if decide (i ≤ j) = true then tc σ H2 fun z H3 => tInt2 y z fun j k => if decide (j < k) = true then td σ H3 fun u H4 => tInt2 z u fun k l =>
  if decide (k < l) = true then te σ H4 fun w H5 => tInt2 u w fun l m => Q (decide (l ≤ m)) H5 else Q false H4 else Q false H3 else Q false H2
theorem op_bool {X : Cx} {op : CmpOp} {g : Int → Int → Bool} (ho : OpR X (compareOp op) (rI0 fun i j => .bl (g i j))) {pins : List (Addr × Obj)} {s : Shared} {σ : L2.St} {H : Hp} {x y : V} {v u : Value} {i j : Int} {Q : Bool → Shared → Prop} (I : Inv X pins σ H s) (rx : RelV x v) (ry : RelV y u) (ex : x = .int i) (ey : y = .int j)
    (h : ∀ s', Inv X pins σ H s' → Q (g i j) s') : wpAny (model X.prog X.w) X.A (compareOp op v u) (fun c s2 => wpAny (model X.prog X.w) X.A (truthy c) Q X.xe s2) X.xe s := by
  refine thn (ho pins s σ H x y v u (fun z H' => z = .bl (g i j) ∧ H' = H) I rx ry ⟨i, j, ex, ey, rfl, rfl⟩) fun c s3 ⟨z, H3, I3, r3, e3, e4⟩ => ?_
  subst e3 e4
  cases r3
  exact wpAny_truthy_bool (h s3 I3)
theorem pt_chain4 {X : Cx} {a b c d e : Expr} {ta tb tc td te : TE} {pos : Pos} (ha : PE X a ta) (hb : PE X b tb) (hc : PE X c tc) (hd : PE X d td) (he : PE X e te) (hm : lastMarks [.LtE, .Lt, .Lt, .LtE] [b, c, d, e] = false := by with_unfolding_all rfl) :
    PT X (.Compare a [.LtE, .Lt, .Lt, .LtE] [b, c, d, e] pos) (tChain4 ta tb tc td te) := by
  refine ⟨fun pins s σ H Q I h => ?_⟩
  refine isTrue_chain (thn (ha.run pins s σ H _ I h) fun v s1 ⟨x, H1, I1, r1, q1⟩ => test_link (thn (hb.run pins s1 σ H1 _ I1 q1) fun u s2 ⟨y, H2, I2, r2, i, j, ex, ey, q2⟩ => ?_)) hm
  refine op_bool op_le I2 r1 r2 ex ey fun s3 I3 => ?_
  cases h1 : decide (i ≤ j) with
  | false =>
    dsimp only at q2
    rw [h1] at q2
    exact ite_ff ⟨H2, I3, q2⟩
  | true =>
    dsimp only at q2
    rw [h1] at q2
    refine ite_tt (test_link (thn (hc.run pins s3 σ H2 _ I3 q2) fun w s4 ⟨z, H4, I4, r4, j2, k, ey2, ez, q4⟩ => ?_))
    refine op_bool op_lt I4 r2 r4 ey2 ez fun s5 I5 => ?_
    cases h2 : decide (j2 < k) with
    | false =>
      dsimp only at q4
      rw [h2] at q4
      exact ite_ff ⟨H4, I5, q4⟩
    | true =>
      dsimp only at q4
      rw [h2] at q4
      refine ite_tt (test_link (thn (hd.run pins s5 σ H4 _ I5 q4) fun w2 s6 ⟨z2, H6, I6, r6, k2, l, ez2, ew, q6⟩ => ?_))
      refine op_bool op_lt I6 r4 r6 ez2 ew fun s7 I7 => ?_
      cases h3 : decide (k2 < l) with
      | false =>
        dsimp only at q6
        rw [h3] at q6
        exact ite_ff ⟨H6, I7, q6⟩
      | true =>
        dsimp only at q6
        rw [h3] at q6
        refine ite_tt (test_last (thn (he.run pins s7 σ H6 _ I7 q6) fun w3 s8 ⟨z3, H8, I8, r8, l2, m, ew2, ev, q8⟩ => ?_))
        exact op_bool op_le I8 r6 r8 ew2 ev fun s9 I9 => ⟨H8, I9, q8⟩
theorem cut_nat {xs : List V} {s t : Nat} (h1 : s ≤ t) (h2 : t ≤ xs.length) : cutV xs (some (s : Int)) (some (t : Int)) = (xs.drop s).take (t - s) := by
  unfold cutV
  rw [show HT.sIx xs.length 0 (some (s : Int)) = min s xs.length from HT.sIx_nat xs.length 0 s, show HT.sIx xs.length xs.length (some (t : Int)) = min t xs.length from HT.sIx_nat xs.length xs.length t, Nat.min_eq_left h2, Nat.min_eq_left (by omega)]
theorem small_size {n : Nat} (h : n ≤ 1000000) : n < sizeLine := Nat.lt_of_le_of_lt h (by decide)
theorem all_bl {l : List Bool} : l.all id = true ↔ ∀ (k : Nat) b, l[k]? = some b → b = true := by
  rw [List.all_eq_true]
  constructor
  · intro h k b hb
    exact h b (List.mem_of_getElem? hb)
  · intro h b hb
    obtain ⟨k, hk⟩ := List.mem_iff_getElem?.mp hb
    exact h k b hk
section
variable {P : Program} {w : World} {K : PySem.W.Frag} {mg : Str → Option Value} {base : Heap} {CF CC : Addr}
def spAreStarts : Sp := fun vs H Q _ => ∃ a st n, vs = [.ref a, .int (n : Nat)] ∧ H a = some (.lst (st.map V.int)) ∧ st.length ≤ 100000 ∧ ∀ H' b, Same H H' → (b = true ↔ StartsOK st n) → Q (.bl b) H'
abbrev s_are_starts : Stmt := topS 18
abbrev N_are_starts : List Str := ["starts", "count", "k"]
theorem sc_are_starts : FnScope N_are_starts ["starts", "count"] (defScope s_are_starts) := ⟨rfl, rfl, rfl, by decide +kernel, rfl, by decide +kernel, by decide +kernel⟩
theorem bd_are_starts : BindsN "are_starts" "are_starts" s_are_starts ["starts", "count"] := fun _ _ _ _ _ _ us hl => match us, hl with | [_, _], _ => rfl
theorem ok_are_starts (T : Txt mg) (D : DefAt K mg "are_starts" s_are_starts) : Cal P w K mg base 1 "are_starts" spAreStarts [] := by
  refine cal_of D sc_are_starts bd_are_starts (fun vs H Q E h => ?_) (fun f cdv A outer s H vs Q E hr h => ?_)
  · obtain ⟨a, st, n, rfl, _⟩ := h
    rfl
  · obtain ⟨a, st, n, rfl, ha, hlen, k⟩ := h
    have hL : (st.map V.int).length = st.length := List.length_map _
    have get : ∀ {i : Nat} {x : Int}, st[i]? = some x → (st.map V.int)[i]? = some (.int x) := fun {i x} h => by
      rw [List.getElem?_map, h]
      rfl
    refine ⟨_, (pss_cons (ps_if (PW.pt (pw_or (pt_not (pt_truth (pv 0) (by intro _; rfl))) (pw_or (pt_cmpR op_ne (pe_ix ix_list (pv 0) pe_int (fun _ _ => rfl)) pe_int (nomark _)) (pw_or1 (pt_cmpR op_ge (pe_ix ix_list (pv 0) (pe_un un_neg pe_int) (fun _ _ => rfl)) (pv 1) (nomark _)))))) (pss_one (ps_ret pe_bl)) pss_nil)
      (pss_one (ps_ret (pe_callB (cr_all rfl) (by rfl) T.all (by decide +kernel) (pa_cons (pe_lc (own := [("k", 2)]) (g := (gName 2)) (tt := tYes) rfl sc_are_starts.nd (pi_range2 rfl T.range (pa_cons pe_int (pa_cons (pe_callB call_len_seq (by rfl) T.len (by decide +kernel) (pa_cons (pv 0) pa_nil)) pa_nil))) (blkOk_by (N := N_are_starts) (own := [("k", 2)]) (sc := defScope s_are_starts) (by decide +kernel)) (fun _ _ _ _ _ => by exact (pg_name (i := 2) sc_are_starts.nd rfl (.inl rfl))) (fun _ _ _ _ _ => pts_nil) (fun _ _ _ _ _ => by exact (pe_cmpR op_lt (pe_ix (ixl (K := K) rfl) (pv 0) (pe_op op_sub (pv 2) pe_int) (fun _ _ => rfl)) (pe_ix (ixl (K := K) rfl) (pv 0) (pv 2) (fun _ _ => rfl)) (nomark _)))) pa_nil))))), ?_⟩
    refine ⟨_, rfl, !(st.map V.int).isEmpty, .inl ⟨_, SqL.of ha, rfl⟩, ite2 (fun c => ?_) (fun c => ?_)⟩
    · have e0 : st = [] := by simpa using c
      refine k H false (Same.refl H) ⟨fun z => (by cases z), fun z => ?_⟩
      have := z.first
      rw [e0] at this
      cases this
    · obtain ⟨x, r, rfl⟩ : ∃ x r, st = x :: r := by
        cases st with
        | nil => simp at c
        | cons x r => exact ⟨x, r, rfl⟩
      refine ⟨_, rfl, _, _, _, _, rfl, rfl, SqL.of ha, atI_nat (j := 0) rfl, rfl, _, rfl, ite2 (fun c => ?_) (fun c => ?_)⟩
      · have hx : x ≠ 0 := by simpa using c
        refine k H false (Same.refl H) ⟨fun z => (by cases z), fun z => ?_⟩
        exact absurd (Option.some.inj z.first) hx
      · have hx : x = 0 := by simpa using c
        subst hx
        obtain ⟨y, hy⟩ : ∃ y, ((0 : Int) :: r)[((0 : Int) :: r).length - 1]? = some y := ⟨_, List.getElem?_eq_getElem (by simp)⟩
        refine ⟨_, rfl, _, rfl, _, _, _, _, rfl, rfl, SqL.of ha, at_neg (k := 1) (by omega) (by rw [hL]; simp) (by rw [hL]; exact get hy), _, rfl, _, _, rfl, rfl, _, rfl, ite2 (fun c => ?_) (fun c => ?_)⟩
        · have hy2 : (n : Int) ≤ y := of_decide_eq_true c
          refine k H false (Same.refl H) ⟨fun z => (by cases z), fun z => ?_⟩
          have := z.last y hy
          omega
        · have hy2 : ¬ (n : Int) ≤ y := fun z => c (decide_eq_true z)
          refine ⟨_, rfl, _, _, rfl, .inl (SqL.of ha), _, _, rfl, (by rw [hL]; simp only [List.length_cons] at hlen ⊢; omega), fun D hD => lc_range (lo := 1) (n := (((((0 : Int) :: r).map V.int).length : Int) - 1).toNat) (fun i H' => Same H H' ∧ ∃ acc : List Bool, H' D = some (.lst (acc.map V.bl)) ∧ acc.length = i ∧
            ∀ (k : Nat) b, acc[k]? = some b → ∃ u v, ((0 : Int) :: r)[k]? = some u ∧ ((0 : Int) :: r)[k + 1]? = some v ∧ b = decide (u < v)) ⟨same_upd hD, [], upd_same, rfl, fun k b h => by simp at h⟩ ?_ ?_⟩
          · rintro i H' hi ⟨S1, acc, hacc, hal, hac⟩
            rw [hL] at hi
            obtain ⟨u, hu⟩ : ∃ u, ((0 : Int) :: r)[i]? = some u := ⟨_, List.getElem?_eq_getElem (by omega)⟩
            obtain ⟨v, hv⟩ : ∃ v, ((0 : Int) :: r)[i + 1]? = some v := ⟨_, List.getElem?_eq_getElem (by omega)⟩
            refine ⟨rfl, _, rfl, _, rfl, _, _, rfl, rfl, _, _, _, _, rfl, rfl, SqL.of (S1 _ _ ha), at_of (j := i) (by omega) (get hu), _, rfl, _, rfl, _, _, _, _, rfl, rfl, SqL.of (S1 _ _ ha), at_of (j := i + 1) (by omega) (get hv), _, _, rfl, rfl, _, hacc, ?_, ?_, acc ++ [decide (u < v)], ?_, ?_, fun k b hk => ?_⟩
            · rw [List.length_map, hal]
              exact small_size (by omega)
            · exact fun b o q => by
                rw [upd_ne (ne_of_none q hD)]
                exact S1 b o q
            · rw [upd_same, List.map_append]
              rfl
            · rw [List.length_append, hal]
              rfl
            · rcases snoc_get hk with ⟨_, h1⟩ | ⟨h1, h2⟩
              · exact hac k b h1
              · rw [h1, hal]
                exact ⟨u, v, hu, hv, h2⟩
          · rintro H' ⟨S1, acc, hacc, hal, hac⟩
            rw [hL] at hal
            refine ⟨D, acc, rfl, SqL.of hacc, ?_⟩
            refine k H' (acc.all id) S1 ?_
            rw [all_bl]
            constructor
            · intro h
              refine ⟨rfl, fun a ha' => ?_, fun j a b h1 h2 => ?_⟩
              · rw [hy] at ha'
                cases ha'
                omega
              · have hj : j < acc.length := by
                  have := (List.getElem?_eq_some_iff.mp h2).1
                  omega
                have g := List.getElem?_eq_getElem hj
                obtain ⟨u, v, gu, gv, e1⟩ := hac j _ g
                have := h j _ g
                rw [e1] at this
                rw [gu] at h1
                rw [gv] at h2
                cases h1
                cases h2
                exact of_decide_eq_true this
            · intro S j b hb
              obtain ⟨u, v, gu, gv, e1⟩ := hac j b hb
              rw [e1]
              exact decide_eq_true (S.asc j u v gu gv)
def spIsReason : Sp := fun vs H Q _ => ∃ a r pts e i j k lo hi, vs = [.ref a, .int e, r, .int lo, .int hi] ∧ LsOf IsPt H a pts ∧ (∀ p ∈ pts, SmP p) ∧ Sm e ∧ IsTri H r (i, j, k) ∧ 0 ≤ lo ∧ hi < (pts.length : Int) ∧ ∀ b, (b = true ↔ ReasonIs pts e (i, j, k) lo hi) → Q (.bl b) H
abbrev s_is_reason : Stmt := topS 19
abbrev N_is_reason : List Str := ["points", "error", "indexes", "least", "most", "first", "second", "third"]
theorem sc_is_reason : FnScope N_is_reason ["points", "error", "indexes", "least", "most"] (defScope s_is_reason) := ⟨rfl, rfl, rfl, by decide +kernel, rfl, by decide +kernel, by decide +kernel⟩
theorem bd_is_reason : BindsN "is_reason" "is_reason" s_is_reason ["points", "error", "indexes", "least", "most"] := fun _ _ _ _ _ _ us hl => match us, hl with | [_, _, _, _, _], _ => rfl
theorem ok_is_reason (T : Txt mg) (D : DefAt K mg "is_reason" s_is_reason) (c_three_fit : Cal P w K mg base 1 "three_fit" spThree []) : Cal P w K mg base 2 "is_reason" spIsReason [] := by
  refine cal_of D sc_is_reason bd_is_reason (fun vs H Q E h => ?_) (fun f cdv A outer s H vs Q E hr h => ?_)
  · obtain ⟨a, r, pts, e, i, j, l, lo, hi, rfl, _⟩ := h
    rfl
  · obtain ⟨a, r, pts, e, i, j, l, lo, hi, rfl, ⟨vs, ha, hvs⟩, sp, se, ⟨t, rfl, ht⟩, h0, h1, k⟩ := h
    have hL : vs.length = pts.length := hvs.length
    refine ⟨_, (pss_cons (ps_asg (pv 2) (pg_tup (by rfl) (pgs_cons (pg_name (i := 5) sc_is_reason.nd rfl (.inl rfl)) (pgs_cons (pg_name (i := 6) sc_is_reason.nd rfl (.inl rfl)) (pgs_cons (pg_name (i := 7) sc_is_reason.nd rfl (.inl rfl)) pgs_nil)))))
      (pss_cons (ps_if (pt_not (pt_chain4 (pv 3) (pv 5) (pv 6) (pv 7) (pv 4))) (pss_one (ps_ret pe_bl)) pss_nil)
      (pss_one (ps_ret (pe_not (C8.pe_c c_three_fit hr (by decide) (by rfl) (pa_cons (pe_ix ix_list (pv 0) (pv 5) (fun _ _ => rfl)) (pa_cons (pe_ix ix_list (pv 0) (pv 6) (fun _ _ => rfl)) (pa_cons (pe_ix ix_list (pv 0) (pv 7) (fun _ _ => rfl)) (pa_cons (pv 1) pa_nil)))))))))), ?_⟩
    refine ⟨_, rfl, t, _, rfl, SqT.of ht, rfl, _, _, rfl, _, _, rfl, _, _, rfl, rfl, ?_⟩
    have no : ¬ ReasonIs pts e (i, j, l) lo hi → Q (.bl false) H := fun z => k false ⟨fun z => (by cases z), fun h => absurd h z⟩
    refine ⟨_, rfl, _, rfl, _, _, rfl, rfl, ite2 (fun c1 => ?_) (fun c1 => ?_)⟩
    · refine ⟨_, rfl, _, _, rfl, rfl, ite2 (fun c2 => ?_) (fun c2 => ?_)⟩
      · refine ⟨_, rfl, _, _, rfl, rfl, ite2 (fun c3 => ?_) (fun c3 => ?_)⟩
        · refine ⟨_, rfl, _, _, rfl, rfl, ite2 (fun c4 => ?_) (fun c4 => ?_)⟩
          · refine no fun z => ?_
            have h4 : l ≤ hi := z.2.2.2.1
            rw [decide_eq_true h4] at c4
            cases c4
          · have d1 : lo ≤ i := of_decide_eq_true c1
            have d2 : i < j := of_decide_eq_true c2
            have d3 : j < l := of_decide_eq_true c3
            have d4 : l ≤ hi := by simpa using c4
            obtain ⟨v1, p, e1, f1, g1⟩ := getP (i := i.toNat) hvs (by omega)
            obtain ⟨v2, q, e2, f2, g2⟩ := getP (i := j.toNat) hvs (by omega)
            obtain ⟨v3, r, e3, f3, g3⟩ := getP (i := l.toNat) hvs (by omega)
            refine ⟨_, rfl, _, rfl, _, _, _, _, rfl, rfl, SqL.of ha, at_of (show i = ((i.toNat : Nat) : Int) by omega) e1, _, rfl, _, rfl, _, _, _, _, rfl, rfl, SqL.of ha, at_of (show j = ((j.toNat : Nat) : Int) by omega) e2, _, rfl, _, rfl, _, _, _, _, rfl, rfl, SqL.of ha, at_of (show l = ((l.toNat : Nat) : Int) by omega) e3, _, rfl, ?_⟩
            refine ⟨_, _, _, p, q, r, _, rfl, g1, g2, g3, sp p (List.mem_of_getElem? f1), sp q (List.mem_of_getElem? f2), sp r (List.mem_of_getElem? f3), se, _, rfl, ?_⟩
            refine k _ ⟨fun z => ?_, fun z => ?_⟩
            · have z' : three p q r e = false := by simpa using z
              exact ⟨d1, d2, d3, d4, i.toNat, j.toNat, l.toNat, p, q, r, by show i = _; omega, by show j = _; omega, by show l = _; omega, f1, f2, f3, z'⟩
            · obtain ⟨_, _, _, _, i', j', l', p', q', r', a1, a2, a3, b1, b2, b3, z'⟩ := z
              have a1 : i = i' := a1
              have a2 : j = j' := a2
              have a3 : l = l' := a3
              rw [show i.toNat = i' by omega] at f1
              rw [show j.toNat = j' by omega] at f2
              rw [show l.toNat = l' by omega] at f3
              rw [f1] at b1; rw [f2] at b2; rw [f3] at b3
              cases b1; cases b2; cases b3
              rw [z']
              rfl
        · exact no fun z => c3 (decide_eq_true z.2.2.1)
      · exact no fun z => c2 (decide_eq_true z.2.1)
    · exact no fun z => c1 (decide_eq_true z.1)
end
end KW
namespace KW
open PySem PySem.Spec PyProof.Rows L2 KG
theorem cut_from {xs : List V} {s : Nat} (h : s ≤ xs.length) : cutV xs (some (s : Int)) none = xs.drop s := by
  unfold cutV
  rw [show HT.sIx xs.length 0 (some (s : Int)) = min s xs.length from HT.sIx_nat xs.length 0 s, HT.sIx_none, Nat.min_eq_left h]
  exact List.take_of_length_le (by rw [List.length_drop]; exact Nat.le_refl _)
theorem ends_get {ps : List Pc} {n k : Nat} (hk : k < ps.length) : ((ps.map (·.1)).drop 1 ++ [(n : Int)])[k]? = some (stAt ps n (k + 1)) := by
  by_cases h : k + 1 < ps.length
  · have g := List.getElem?_eq_getElem h
    rw [stAt_of g, List.getElem?_append_left (by rw [List.length_drop, List.length_map]; omega), List.getElem?_drop, List.getElem?_map, Nat.add_comm 1 k, g]
    rfl
  · rw [stAt_end (by omega), List.getElem?_append_right (by rw [List.length_drop, List.length_map]; omega), List.length_drop, List.length_map, show k - (ps.length - 1) = 0 by omega]
    rfl
theorem starts_at {ps : List Pc} {n k : Nat} (S : StartsOK (ps.map (·.1)) n) : ∀ (m k : Nat), k + m = ps.length → stAt ps n k ≤ n := by
  intro m
  induction m with
  | zero =>
    intro k hk
    rw [stAt_end (by omega)]
    exact Int.le_refl _
  | succ m ih =>
    intro k hk
    have h1 := List.getElem?_eq_getElem (show k < ps.length by omega)
    rw [stAt_of h1]
    by_cases h2 : k + 1 < ps.length
    · have := ih (k + 1) (by omega)
      have h3 := List.getElem?_eq_getElem h2
      rw [stAt_of h3] at this
      have : ps[k].1 < ps[k + 1].1 := S.asc k _ _ (by rw [List.getElem?_map, h1]; rfl) (by rw [List.getElem?_map, h3]; rfl)
      omega
    · have : ps[k].1 < (n : Int) := S.last _ (by
        have e : (ps.map (·.1)).length - 1 = k := by rw [List.length_map]; omega
        rw [e, List.getElem?_map, h1]
        rfl)
      omega
theorem starts_lt {ps : List Pc} {n : Nat} (S : StartsOK (ps.map (·.1)) n) {k : Nat} (hk : k < ps.length) : stAt ps n k < stAt ps n (k + 1) := by
  have h1 := List.getElem?_eq_getElem hk
  rw [stAt_of h1]
  by_cases h2 : k + 1 < ps.length
  · have h3 := List.getElem?_eq_getElem h2
    rw [stAt_of h3]
    exact S.asc k _ _ (by rw [List.getElem?_map, h1]; rfl) (by rw [List.getElem?_map, h3]; rfl)
  · rw [stAt_end (by omega)]
    exact S.last _ (by
        have e : (ps.map (·.1)).length - 1 = k := by rw [List.length_map]; omega
        rw [e, List.getElem?_map, h1]
        rfl)
theorem starts_nn {ps : List Pc} {n : Nat} (S : StartsOK (ps.map (·.1)) n) : ∀ k, k ≤ ps.length → 0 ≤ stAt ps n k := by
  intro k
  induction k with
  | zero =>
    intro _
    have h := S.first
    rw [List.getElem?_map] at h
    cases h2 : ps[0]? with
    | none =>
      rw [h2] at h
      cases h
    | some p =>
      rw [h2] at h
      rw [stAt_of h2, show p.1 = 0 from Option.some.inj h]
      exact Int.le_refl 0
  | succ k ih =>
    intro hk
    have := ih (by omega)
    have := starts_lt S (k := k) (by omega)
    omega
section
variable {P : Program} {w : World} {K : PySem.W.Frag} {mg : Str → Option Value} {base : Heap} {CF CC : Addr}
def spJudge (CC : Addr) : Sp := fun vs H Q _ => ∃ a c pts e ps rs, vs = [.ref a, .int e, .ref c] ∧ LsOf IsPt H a pts ∧ (∀ p ∈ pts, SmP p) ∧ Sm e ∧ pts.length ≤ 900 ∧ CutAt H c CC ps rs ∧ ps.length ≤ 100000 ∧ ∀ H' b, Same H H' → (b = true ↔ Judged pts e ps rs) → Q (.bl b) H'
abbrev s_judge : Stmt := topS 20
abbrev N_judge : List Str := ["points", "error", "cutting", "line", "starts", "ends", "position", "piece", "indexes", "start"]
theorem sc_judge : FnScope N_judge ["points", "error", "cutting"] (defScope s_judge) := ⟨rfl, rfl, rfl, by decide +kernel, rfl, by decide +kernel, by decide +kernel⟩
theorem bd_judge : BindsN "judge" "judge" s_judge ["points", "error", "cutting"] := fun _ _ _ _ _ _ us hl => match us, hl with | [_, _, _], _ => rfl
theorem ok_judge (T : Txt mg) (JC : CutC K CC) (D : DefAt K mg "judge" s_judge) (c_are_starts : Cal P w K mg base 1 "are_starts" spAreStarts []) (c_line_fits : Cal P w K mg base 2 "line_fits" spLineFits []) (c_is_reason : Cal P w K mg base 2 "is_reason" spIsReason []) :
    Cal P w K mg base 3 "judge" (spJudge CC) [] := by
  refine cal_of D sc_judge bd_judge (fun vs H Q E h => ?_) (fun f cdv A outer s H vs Q E hr h => ?_)
  · obtain ⟨a, c, pts, e, ps, rs, rfl, _⟩ := h
    rfl
  · obtain ⟨a, c, pts, e, ps, rs, rfl, hA, sp, se, hlen, ⟨dx, l1, l2, hc, ⟨pvs, hP, hpv⟩, ⟨rv, hR, hrv⟩⟩, hps, k⟩ := h
    obtain ⟨vs, ha, hvs⟩ := id hA
    have hL : vs.length = pts.length := hvs.length
    have hLp : pvs.length = ps.length := hpv.length
    have hLr : rv.length = rs.length := hrv.length
    refine ⟨_, (pss_cons (ps_setLc (i := 4) rfl sc_judge.nd rfl rfl (sw_true rfl rfl rfl (by decide +kernel)) (own := [("start", 9), ("line", 3)]) (g := (gTup K 2 (gCons (gName 9) (gCons (gName 3) gNil)))) (tt := tYes) (pi_list (pe_fld (pv 2) rfl)) (blkOk_by (N := N_judge) (own := [("start", 9), ("line", 3)]) (sc := defScope s_judge) (by decide +kernel)) (fun _ _ _ _ _ => by exact (pg_tup (by rfl) (pgs_cons (pg_name (i := 9) sc_judge.nd rfl (.inl rfl)) (pgs_cons (pg_name (i := 3) sc_judge.nd rfl (.inl rfl)) pgs_nil)))) (fun _ _ _ _ _ => pts_nil) (fun _ _ _ _ _ => by exact (pv 9)))
      (pss_cons (ps_if (pt_not (pt_truth (pv 0) (by intro _; rfl))) (pss_one (ps_ret (pe_and (pe_notT (pv 4)) (pe_one (pe_notT (pe_fld (pv 2) rfl)))))) pss_nil)
      (pss_cons (ps_if (PW.pt (pw_or (pt_not (pt_val (C8.pe_c c_are_starts hr (by decide) (by rfl) (pa_cons (pv 4) (pa_cons (pe_callB call_len_seq (by rfl) T.len (by decide +kernel) (pa_cons (pv 0) pa_nil)) pa_nil))))) (pw_or1 (pt_cmpR op_ne (pe_callB call_len_seq (by rfl) T.len (by decide +kernel) (pa_cons (pe_fld (pv 2) rfl) pa_nil)) (pe_op op_sub (pe_callB call_len_seq (by rfl) T.len (by decide +kernel) (pa_cons (pv 4) pa_nil)) pe_int) (nomark _))))) (pss_one (ps_ret pe_bl)) pss_nil)
      (pss_cons (ps_set (i := 5) sc_judge.nd rfl (.inl rfl) (pe_op op_cat (pe_slice sl_list (pv 4) (po_some pe_int) po_none) (pe_lst (pa_cons (pe_callB call_len_seq (by rfl) T.len (by decide +kernel) (pa_cons (pv 0) pa_nil)) pa_nil))))
      (pss_cons (ps_for PassesOwn.never rfl (pi_enum (by rfl) T.enumerate (pa_cons (pe_fld (pv 2) rfl) pa_nil)) (pg_tup (by rfl) (pgs_cons (pg_name (i := 6) sc_judge.nd rfl (.inl rfl)) (pgs_cons (pg_name (i := 7) sc_judge.nd rfl (.inl rfl)) pgs_nil))) (pss_cons (ps_set (i := 3) sc_judge.nd rfl (.inl rfl) (pe_ix ix_tup (pv 7) pe_int (fun _ _ => rfl)))
        (pss_one (ps_if (PW.pt (pw_or (pt_cmpR op_lt (pe_ix ix_tup (pv 3) pe_int (fun _ _ => rfl)) pe_int (nomark _)) (pw_or1 (pt_not (pt_val (C8.pe_c c_line_fits hr (by decide) (by rfl) (pa_cons (pv 3) (pa_cons (pe_slice sl_list (pv 0) (po_some (pe_ix ix_tup (pv 7) pe_int (fun _ _ => rfl))) (po_some (pe_ix ix_list (pv 5) (pv 6) (fun _ _ => rfl)))) (pa_cons (pv 1) pa_nil))))))))) (pss_one (ps_ret pe_bl)) pss_nil))))
      (pss_cons (ps_for PassesOwn.never rfl (pi_enum (by rfl) T.enumerate (pa_cons (pe_fld (pv 2) rfl) pa_nil)) (pg_tup (by rfl) (pgs_cons (pg_name (i := 6) sc_judge.nd rfl (.inl rfl)) (pgs_cons (pg_name (i := 8) sc_judge.nd rfl (.inl rfl)) pgs_nil))) (pss_one (ps_if (pt_not (pt_val (C8.pe_c c_is_reason hr (by decide) (by rfl) (pa_cons (pv 0) (pa_cons (pv 1) (pa_cons (pv 8) (pa_cons (pe_ix ix_list (pv 4) (pv 6) (fun _ _ => rfl)) (pa_cons (pe_ix ix_list (pv 4) (pe_op op_add (pv 6) pe_int) (fun _ _ => rfl)) pa_nil)))))))) (pss_one (ps_ret pe_bl)) pss_nil)))
      (pss_one (ps_ret pe_bl)))))))), ?_⟩
    refine ⟨_, rfl, _, _, _, _, _, rfl, hc, JC.cl, JC.pieces, rfl, l1, rfl, ⟨_, SqL.of hP⟩, fun D hD => lc_list (K := K) (a := l1) (xs := pvs) (fun i H' => Same H H' ∧ H' D = some (.lst (((ps.take i).map (·.1)).map V.int))) ⟨same_upd hD, upd_same⟩ (fun i H' _ q => SqL.of (q.1 _ _ hP)) ?_ ?_⟩
    · rintro i x H' hx ⟨S1, hd1⟩
      obtain ⟨pc, hp, ⟨t, u, rfl, ht, hu⟩⟩ := paired_get hpv hx
      refine ⟨t, _, rfl, SqT.of (S1 _ _ ht), rfl, _, _, rfl, _, _, rfl, rfl, rfl, ?_⟩
      refine ⟨_, rfl, _, hd1, ?_, ?_, ?_⟩
      · rw [List.length_map, List.length_map, List.length_take]
        exact small_size (by omega)
      · exact fun b o q => by
          rw [upd_ne (ne_of_none q hD)]
          exact S1 b o q
      · rw [upd_same, take_get hp, List.map_append, List.map_append]
        rfl
    rintro H1 ⟨S1, hD1⟩
    rw [hLp, List.take_length] at hD1
    refine ⟨_, rfl, !vs.isEmpty, .inl ⟨vs, SqL.of (S1 _ _ ha), rfl⟩, ite2 (fun c0 => ?_) (fun c0 => ?_)⟩
    · have e0 : pts = [] := by
        cases vs with
        | nil => exact List.length_eq_zero_iff.mp hL.symm
        | cons x r => simp at c0
      refine ⟨_, rfl, !(((ps.map (·.1)).map V.int)).isEmpty, .inl ⟨_, SqL.of hD1, rfl⟩, _, rfl, ite2 (fun c1 => ?_) (fun c1 => ?_)⟩
      · have e1 : ps = [] := by simpa using c1
        refine ⟨_, rfl, _, _, _, _, _, rfl, S1 _ _ hc, JC.cl, JC.reasons, rfl, !rv.isEmpty, .inl ⟨_, SqL.of (S1 _ _ hR), rfl⟩, ?_⟩
        refine k H1 _ S1 ?_
        constructor
        · intro z
          have : rv = [] := by simpa using z
          rw [this] at hLr
          exact .inl ⟨e0, e1, List.length_eq_zero_iff.mp hLr.symm⟩
        · rintro (⟨_, _, e2⟩ | ⟨h, _⟩)
          · rw [e2] at hLr
            have : rv = [] := List.length_eq_zero_iff.mp hLr
            rw [this]
            rfl
          · exact absurd e0 h
      · refine k H1 _ S1 ⟨fun z => (by cases z), ?_⟩
        rintro (⟨_, e1, _⟩ | ⟨h, _⟩)
        · rw [e1] at c1
          simp at c1
        · exact absurd e0 h
    have hne : pts ≠ [] := fun z => by
      rw [z] at hL
      have : vs = [] := List.length_eq_zero_iff.mp hL
      rw [this] at c0
      simp at c0
    have no : ∀ H', Same H H' → ¬ Judged1 pts e ps rs → Q (.bl false) H' := fun H' S z => k H' false S ⟨fun z => (by cases z), by
      rintro (⟨h, _⟩ | ⟨_, h⟩)
      · exact absurd h hne
      · exact absurd h z⟩
    refine ⟨_, rfl, _, rfl, _, _, rfl, .inl (SqL.of (S1 _ _ ha)), D, _, vs.length, rfl, hD1, by rw [List.length_map]; exact hps, fun H2 b2 S2 hb2 => ⟨_, rfl, ite2 (fun c1 => ?_) (fun c1 => ?_)⟩⟩
    · refine no H2 (S1.trans S2) fun z => ?_
      have hs := z.st
      rw [← hL] at hs
      have := hb2.mpr hs
      rw [this] at c1
      cases c1
    have SO : StartsOK (ps.map (·.1)) pts.length := by
      rw [← hL]
      exact hb2.mp (by simpa using c1)
    have S02 := S1.trans S2
    refine ⟨_, rfl, _, _, _, _, _, rfl, S02 _ _ hc, JC.cl, JC.reasons, rfl, _, _, rfl, .inl (SqL.of (S02 _ _ hR)), _, rfl, _, _, rfl, .inl (SqL.of (S2 _ _ hD1)), _, _, rfl, rfl, rfl, _, rfl, ite2 (fun c2 => ?_) (fun c2 => ?_)⟩
    · refine no H2 S02 fun z => ?_
      have := z.len
      rw [List.length_map, List.length_map, hLr] at c2
      have c3 : ¬ (V.int (rs.length : Int)) = V.int ((ps.length : Int) - 1) := by simpa using c2
      exact c3 (congrArg V.int (by omega))
    have hlen2 : rs.length + 1 = ps.length := by
      rw [List.length_map, List.length_map, hLr] at c2
      have c3 : (V.int (rs.length : Int)) = V.int ((ps.length : Int) - 1) := by simpa using c2
      have := V.int.inj c3
      omega
    -- ends
    refine ⟨_, rfl, 1, rfl, D, _, rfl, SqL.of (S2 _ _ hD1), fun q nq => ?_⟩
    have S3 := sameU (o := .lst (cutV ((ps.map (·.1)).map V.int) (some 1) none)) S2 nq
    have S03 := S1.trans S3
    refine ⟨_, rfl, _, _, rfl, .inl (SqL.of (S03 _ _ ha)), (by show 1 ≤ sizeLine; decide), fun q2 nq2 => ?_⟩
    have nqq : q ≠ q2 := ne_of_none upd_same nq2
    have e1 : cutV ((ps.map (·.1)).map V.int) (some 1) none = ((ps.map (·.1)).drop 1).map V.int := by
      rw [show (some (1 : Int)) = some ((1 : Nat) : Int) from rfl, cut_from (by rw [List.length_map, List.length_map]; omega), List.map_drop]
    refine ⟨q, q2, _, _, rfl, rfl, same_upd nq2 _ _ upd_same, upd_same, ?_, fun E nE => ?_⟩
    · rw [e1, List.length_map, List.length_drop, List.length_map]
      exact Nat.le_of_lt (small_size (by show ps.length - 1 + 1 ≤ _; omega))
    have S4 := sameU (o := .lst (cutV ((ps.map (·.1)).map V.int) (some 1) none ++ [.int (vs.length : Int)])) (sameU (o := .lst [.int (vs.length : Int)]) S3 nq2) nE
    have S04 := S1.trans S4
    have hE := upd_same (H := upd (upd H2 q (.lst (cutV ((ps.map (·.1)).map V.int) (some 1) none))) q2 (.lst [.int (vs.length : Int)])) (a := E) (o := .lst (cutV ((ps.map (·.1)).map V.int) (some 1) none ++ [.int (vs.length : Int)]))
    generalize upd (upd (upd H2 q (.lst (cutV ((ps.map (·.1)).map V.int) (some 1) none))) q2 (.lst [.int (vs.length : Int)])) E (.lst (cutV ((ps.map (·.1)).map V.int) (some 1) none ++ [.int (vs.length : Int)])) = G at S4 S04 hE
    rw [e1, show ((ps.map (·.1)).drop 1).map V.int ++ [V.int (vs.length : Int)] = ((ps.map (·.1)).drop 1 ++ [(pts.length : Int)]).map V.int by rw [List.map_append, hL]; rfl] at hE
    have hDG := S4 _ _ hD1
    -- the pieces
    refine ⟨_, rfl, _, _, _, _, _, rfl, S04 _ _ hc, JC.cl, JC.pieces, rfl, l1, pvs, rfl, SqL.of (S04 _ _ hP), for_enum (K := K) (a := l1) (xs := pvs) (fun i σ H' => Same G H' ∧ (∃ y3 y6 y7 y8 y9, σ = [some (.ref a), some (.int e), some (.ref c), y3, some (.ref D), some (.ref E), y6, y7, y8, y9]) ∧ ∀ j, j < i → PieceOK pts e ps j)
      ⟨Same.refl G, ⟨_, _, _, _, _, rfl⟩, fun j hj => by omega⟩ (fun i σ H' _ h => SqL.of (h.1 _ _ (S04 _ _ hP))) ?_ ?_⟩
    · rintro i x σ H' Tp hx ⟨S5, ⟨y3, y6, y7, y8, y9, rfl⟩, hOK⟩ nT
      obtain ⟨pc, hp, ⟨t, u, rfl, ht, ⟨tl, rfl, htl⟩⟩⟩ := paired_get hpv hx
      have hi : i < ps.length := (List.getElem?_eq_some_iff.mp hp).1
      have S6 := sameU (o := .tup [.int (i : Int), .ref t]) S5 nT
      have S06 := S04.trans S6
      refine ⟨Tp, _, rfl, SqT.of upd_same, rfl, _, _, rfl, _, _, rfl, rfl, ?_⟩
      generalize upd H' Tp (.tup [.int (i : Int), .ref t]) = G2 at S6 S06
      refine ⟨_, rfl, _, _, _, _, rfl, rfl, SqT.of (S06 _ _ ht), rfl, _, rfl, _, _, _, _, rfl, rfl, SqT.of (S06 _ _ htl), rfl, _, _, rfl, rfl, _, rfl, ite2 (fun c3 => ?_) (fun c3 => ?_)⟩
      · refine no _ S06 fun z => ?_
        have := (z.pcs i pc hp).1
        have h3 : pc.2.2.2 < 1 := of_decide_eq_true c3
        omega
      · have d1 : 1 ≤ pc.2.2.2 := by
          have : ¬ pc.2.2.2 < 1 := fun z => c3 (decide_eq_true z)
          omega
        have b0 := starts_nn SO i (by omega)
        have b1 := starts_lt SO hi
        have b2 := starts_at (k := 0) SO (ps.length - (i + 1)) (i + 1) (by omega)
        have eS : stAt ps pts.length i = pc.1 := stAt_of hp
        rw [eS] at b0 b1
        have gE : (((ps.map (·.1)).drop 1 ++ [(pts.length : Int)]).map V.int)[i]? = some (.int (stAt ps pts.length (i + 1))) := by
          rw [List.getElem?_map, ends_get hi]
          rfl
        refine ⟨_, rfl, _, rfl, _, rfl, _, _, _, _, rfl, rfl, SqT.of (S06 _ _ ht), rfl, _, rfl, _, rfl, _, rfl, _, _, _, _, rfl, rfl, SqL.of (S6 _ _ hE), atI_nat gE, _, rfl, a, vs, rfl, SqL.of (S06 _ _ ha), fun sl nsl => ?_⟩
        have S7 := sameU (o := .lst (cutV vs (some pc.1) (some (stAt ps pts.length (i + 1))))) S06 nsl
        have eC : cutV vs (some pc.1) (some (stAt ps pts.length (i + 1))) = (vs.drop pc.1.toNat).take ((stAt ps pts.length (i + 1)).toNat - pc.1.toNat) := by
          rw [show (some pc.1) = some ((pc.1.toNat : Nat) : Int) by congr 1; omega, show (some (stAt ps pts.length (i + 1))) = some (((stAt ps pts.length (i + 1)).toNat : Nat) : Int) by congr 1; omega]
          rw [cut_nat (by omega) (by omega)]
        refine ⟨_, rfl, .ref tl, sl, pc.2.1, pc.2.2.1, pc.2.2.2, slc pts pc.1.toNat (stAt ps pts.length (i + 1)).toNat, e, rfl, ⟨tl, rfl, S7 _ _ htl⟩, ⟨_, upd_same, ?_⟩, fun p hp => sp p (slc_mem hp), se, _, rfl, ite2 (fun c4 => ?_) (fun c4 => ?_)⟩
        · have hpp := pairedSame IsPt.mono (sameT S7) (paired_take ((stAt ps pts.length (i + 1)).toNat - pc.1.toNat) (paired_drop pc.1.toNat hvs))
          rw [← eC] at hpp
          exact hpp
        · refine no _ S7 fun z => ?_
          have h4 : ((slc pts pc.1.toNat (stAt ps pts.length (i + 1)).toNat).all fun pt => near pc.2.1 pc.2.2.1 pc.2.2.2 pt e) = false := by simpa using c4
          rw [List.all_eq_false] at h4
          obtain ⟨pt, hpt, hn⟩ := h4
          refine hn ?_
          obtain ⟨m, hm⟩ := List.mem_iff_getElem?.mp hpt
          rw [slc_get] at hm
          split at hm
          · exact (z.pcs i pc hp).2 (pc.1.toNat + m) pt (by omega) (by omega) hm
          · cases hm
        · refine ⟨S6.trans (same_upd nsl), ⟨_, _, _, _, _, rfl⟩, fun j hj => ?_⟩
          by_cases hji : j = i
          · subst hji
            intro pc' hp'
            rw [hp] at hp'
            cases hp'
            refine ⟨d1, fun m p a1 a2 a3 => ?_⟩
            have h4 : ((slc pts pc.1.toNat (stAt ps pts.length (j + 1)).toNat).all fun pt => near pc.2.1 pc.2.2.1 pc.2.2.2 pt e) = true := by simpa using c4
            rw [List.all_eq_true] at h4
            exact h4 p (slc_near (i := m) (by omega) (by omega) a3)
          · exact hOK j (by omega)
    rintro σ H5 ⟨S5, ⟨y3, y6, y7, y8, y9, rfl⟩, hOK⟩
    rw [hLp] at hOK
    have S05 := S04.trans S5
    -- the reasons
    refine ⟨_, rfl, _, _, _, _, _, rfl, S05 _ _ hc, JC.cl, JC.reasons, rfl, l2, rv, rfl, SqL.of (S05 _ _ hR), for_enum (K := K) (a := l2) (xs := rv) (fun i σ H' => Same H5 H' ∧ (∃ y3 y6 y7 y8 y9, σ = [some (.ref a), some (.int e), some (.ref c), y3, some (.ref D), some (.ref E), y6, y7, y8, y9]) ∧ ∀ j r, j < i → rs[j]? = some r → ReasonIs pts e r (stAt ps pts.length j) (stAt ps pts.length (j + 1)))
      ⟨Same.refl H5, ⟨_, _, _, _, _, rfl⟩, fun j r hj => by omega⟩ (fun i σ H' _ h => SqL.of (h.1 _ _ (S05 _ _ hR))) ?_ ?_⟩
    · rintro i x σ H' Tp hx ⟨S6, ⟨y3, y6, y7, y8, y9, rfl⟩, hRK⟩ nT
      obtain ⟨r, hr', hxr⟩ := paired_get hrv hx
      have hi : i < rs.length := (List.getElem?_eq_some_iff.mp hr').1
      have S7 := sameU (o := .tup [.int (i : Int), x]) S6 nT
      have S07 := S05.trans S7
      refine ⟨Tp, _, rfl, SqT.of upd_same, rfl, _, _, rfl, _, _, rfl, rfl, ?_⟩
      generalize upd H' Tp (.tup [.int (i : Int), x]) = G2 at S7 S07
      have gS : ∀ {j : Nat}, j < ps.length → ((ps.map (·.1)).map V.int)[j]? = some (.int (stAt ps pts.length j)) := fun {j} hj => by
        have g := List.getElem?_eq_getElem hj
        rw [stAt_of g, List.getElem?_map, List.getElem?_map, g]
        rfl
      have hDG2 : G2 D = some (.lst ((ps.map (·.1)).map V.int)) := S7 _ _ (S5 _ _ hDG)
      have b0 := starts_nn SO i (by omega)
      have b1 : stAt ps pts.length (i + 1) < stAt ps pts.length (i + 2) := starts_lt SO (k := i + 1) (by omega)
      have b2 := starts_at (k := 0) SO (ps.length - (i + 2)) (i + 2) (by omega)
      refine ⟨_, rfl, _, rfl, _, rfl, _, rfl, _, rfl, _, _, _, _, rfl, rfl, SqL.of hDG2, atI_nat (gS (by omega)), _, rfl, _, rfl, _, _, rfl, rfl, _, _, _, _, rfl, rfl, SqL.of hDG2, at_of (j := i + 1) (by omega) (gS (by omega)), a, x, pts, e, r.1, r.2.1, r.2.2, _, _, rfl, LsOf.same IsPt.mono S07 hA, sp, se, IsTri.mono _ _ _ _ (sameT S07) hxr, b0, by omega, fun b hb => ⟨_, rfl, ite2 (fun c3 => ?_) (fun c3 => ?_)⟩⟩
      · refine no _ S07 fun z => ?_
        have := hb.mpr (z.rss i r hr')
        rw [this] at c3
        cases c3
      · refine ⟨S7, ⟨_, _, _, _, _, rfl⟩, fun j r' hj hr2 => ?_⟩
        by_cases hji : j = i
        · subst hji
          rw [hr'] at hr2
          cases hr2
          exact hb.mp (by simpa using c3)
        · exact hRK j r' (by omega) hr2
    rintro σ H6 ⟨S6, ⟨y3, y6, y7, y8, y9, rfl⟩, hRK⟩
    rw [hLr] at hRK
    refine k H6 true (S05.trans S6) ⟨fun _ => .inr ⟨hne, SO, hlen2, fun j => ?_, fun j r hr2 => hRK j r (List.getElem?_eq_some_iff.mp hr2).1 hr2⟩, fun _ => rfl⟩
    by_cases hj : j < ps.length
    · exact hOK j hj
    · intro pc hp
      rw [List.getElem?_eq_none (by omega)] at hp
      cases hp
end
end KW
namespace KW
open PySem PySem.Spec PyProof.Rows L2 KG KT
/-! ### comprehensions that make a list of told values -/
theorem lc_mapT {K : PySem.W.Frag} {a : Addr} {xs : List V} {g : TG} {tt : TT} {te : TE} {vs : List Nat} {σ : L2.St} {H1 : Hp} {D : Addr} {Qd : Hp → Prop} (ys : List V) (hD : H1 D = none) (hx : H1 a = some (.tup xs)) (hl : ys.length = xs.length) (hz : xs.length < sizeLine)
    (hs : ∀ (i : Nat) x y H' (Qk : VK) (N0 : Hp → Prop), xs[i]? = some x → ys[i]? = some y → Same H1 H' → (∀ H2, Same H' H2 → Qk y H2) → g x (wipe σ vs) H' fun σ2 H2 => wipe σ2 vs = wipe σ vs ∧ tt σ2 H2 fun b H3 => if b = true then te σ2 H3 Qk else N0 H3) (hd : ∀ H, Same H1 H → H D = some (.lst ys) → Qd H) :
    ∃ W : Nat → Nat → Hp → Prop, (∃ m, W 0 m (upd H1 D (.lst []))) ∧ ∀ i m H, W i m H →
      ((Itt K a).stop i H ∧ Qd H) ∨ ((Itt K a).go i H ∧ ∃ Nx : Hp → Prop, (∀ H', Nx H' → ∃ m', m' < m ∧ W (i + 1) m' H') ∧ ∀ x H', (Itt K a).yld i H x H' → g x (wipe σ vs) H' fun σ2 H2 => wipe σ2 vs = wipe σ vs ∧ tt σ2 H2 fun b H3 =>
        if b = true then te σ2 H3 fun y H4 => ∃ acc, H4 D = some (.lst acc) ∧ acc.length < sizeLine ∧ Nx (upd H4 D (.lst (acc ++ [y]))) else Nx H3) := by
  refine lc_tup (fun i H => Same H1 H ∧ H D = some (.lst (ys.take i))) ⟨same_upd hD, upd_same⟩ (fun i H _ h => SqT.of (h.1 _ _ hx)) (fun i x H hi h => ?_) (fun H h => hd H h.1 (by have := h.2; rwa [← hl, List.take_length] at this))
  have hi2 : i < ys.length := by rw [hl]; exact (List.getElem?_eq_some_iff.mp hi).1
  refine hs i x _ H _ _ hi (List.getElem?_eq_getElem hi2) h.1 fun H2 S2 => ⟨_, S2 _ _ h.2, ?_, ?_, ?_⟩
  · rw [List.length_take]
    omega
  · exact fun b o q => by
      rw [upd_ne (ne_of_none q hD)]
      exact S2 _ _ (h.1 b o q)
  · rw [upd_same, take_get (List.getElem?_eq_getElem hi2)]
theorem lc_mapL {K : PySem.W.Frag} {a : Addr} {xs : List V} {g : TG} {tt : TT} {te : TE} {vs : List Nat} {σ : L2.St} {H1 : Hp} {D : Addr} {Qd : Hp → Prop} (ys : List V) (hD : H1 D = none) (hx : H1 a = some (.lst xs)) (hl : ys.length = xs.length) (hz : xs.length < sizeLine)
    (hs : ∀ (i : Nat) x y H' (Qk : VK) (N0 : Hp → Prop), xs[i]? = some x → ys[i]? = some y → Same H1 H' → (∀ H2, Same H' H2 → Qk y H2) → g x (wipe σ vs) H' fun σ2 H2 => wipe σ2 vs = wipe σ vs ∧ tt σ2 H2 fun b H3 => if b = true then te σ2 H3 Qk else N0 H3) (hd : ∀ H, Same H1 H → H D = some (.lst ys) → Qd H) :
    ∃ W : Nat → Nat → Hp → Prop, (∃ m, W 0 m (upd H1 D (.lst []))) ∧ ∀ i m H, W i m H →
      ((Itl K a).stop i H ∧ Qd H) ∨ ((Itl K a).go i H ∧ ∃ Nx : Hp → Prop, (∀ H', Nx H' → ∃ m', m' < m ∧ W (i + 1) m' H') ∧ ∀ x H', (Itl K a).yld i H x H' → g x (wipe σ vs) H' fun σ2 H2 => wipe σ2 vs = wipe σ vs ∧ tt σ2 H2 fun b H3 =>
        if b = true then te σ2 H3 fun y H4 => ∃ acc, H4 D = some (.lst acc) ∧ acc.length < sizeLine ∧ Nx (upd H4 D (.lst (acc ++ [y]))) else Nx H3) := by
  refine lc_list (fun i H => Same H1 H ∧ H D = some (.lst (ys.take i))) ⟨same_upd hD, upd_same⟩ (fun i H _ h => SqL.of (h.1 _ _ hx)) (fun i x H hi h => ?_) (fun H h => hd H h.1 (by have := h.2; rwa [← hl, List.take_length] at this))
  have hi2 : i < ys.length := by rw [hl]; exact (List.getElem?_eq_some_iff.mp hi).1
  refine hs i x _ H _ _ hi (List.getElem?_eq_getElem hi2) h.1 fun H2 S2 => ⟨_, S2 _ _ h.2, ?_, ?_, ?_⟩
  · rw [List.length_take]
    omega
  · exact fun b o q => by
      rw [upd_ne (ne_of_none q hD)]
      exact S2 _ _ (h.1 b o q)
  · rw [upd_same, take_get (List.getElem?_eq_getElem hi2)]
theorem lc_mapS {x : LL} {g : TG} {tt : TT} {te : TE} {vs : List Nat} {σ : L2.St} {H1 : Hp} {D : Addr} {Qd : Hp → Prop} (ys : List V) (hD : H1 D = none) (hl : ys.length = x.length) (hz : x.length < sizeLine)
    (hs : ∀ (i c : Nat) y H' (Qk : VK) (N0 : Hp → Prop), x[i]? = some c → ys[i]? = some y → Same H1 H' → (∀ H2, Same H' H2 → Qk y H2) → g (.str ⟨#[c]⟩) (wipe σ vs) H' fun σ2 H2 => wipe σ2 vs = wipe σ vs ∧ tt σ2 H2 fun b H3 => if b = true then te σ2 H3 Qk else N0 H3) (hd : ∀ H, Same H1 H → H D = some (.lst ys) → Qd H) :
    ∃ W : Nat → Nat → Hp → Prop, (∃ m, W 0 m (upd H1 D (.lst []))) ∧ ∀ i m H, W i m H →
      ((Its (SX.S x)).stop i H ∧ Qd H) ∨ ((Its (SX.S x)).go i H ∧ ∃ Nx : Hp → Prop, (∀ H', Nx H' → ∃ m', m' < m ∧ W (i + 1) m' H') ∧ ∀ v H', (Its (SX.S x)).yld i H v H' → g v (wipe σ vs) H' fun σ2 H2 => wipe σ2 vs = wipe σ vs ∧ tt σ2 H2 fun b H3 =>
        if b = true then te σ2 H3 fun y H4 => ∃ acc, H4 D = some (.lst acc) ∧ acc.length < sizeLine ∧ Nx (upd H4 D (.lst (acc ++ [y]))) else Nx H3) := by
  have sz : (SX.S x).cps.size = x.length := SX.S_len x
  refine ⟨fun i m H => m = x.length - i ∧ i ≤ x.length ∧ Same H1 H ∧ H D = some (.lst (ys.take i)), ⟨x.length, by simp, Nat.zero_le _, same_upd hD, upd_same⟩, ?_⟩
  rintro i m H ⟨rfl, hi, S1, h2⟩
  by_cases hlt : i < x.length
  · refine .inr ⟨show i < (SX.S x).cps.size by omega, fun H' => Same H1 H' ∧ H' D = some (.lst (ys.take (i + 1))), fun H' p' => ⟨x.length - (i + 1), by omega, rfl, hlt, p'⟩, fun v H' y => ?_⟩
    obtain ⟨e, c, hc, rfl⟩ := y
    subst e
    have hc' : x[i]? = some c := by
      have : x.toArray[i]? = some c := hc
      rwa [List.getElem?_toArray] at this
    have hi2 : i < ys.length := by omega
    refine hs i c _ _ _ _ hc' (List.getElem?_eq_getElem hi2) S1 fun H2 S2 => ⟨_, S2 _ _ h2, ?_, ?_, ?_⟩
    · rw [List.length_take]
      omega
    · exact fun b o q => by
        rw [upd_ne (ne_of_none q hD)]
        exact S2 _ _ (S1 b o q)
    · rw [upd_same, take_get (List.getElem?_eq_getElem hi2)]
  · have e : i = x.length := by omega
    subst e
    refine .inl ⟨show (SX.S x).cps.size ≤ x.length by omega, hd H S1 ?_⟩
    rwa [← hl, List.take_length] at h2
theorem eqS {w u : LL} {y : Str} (hy : y = SX.S u) : (decide (V.str (SX.S w) = V.str y)) = decide (w = u) := by
  subst hy
  by_cases h : w = u
  · subst h
    rw [decide_eq_true rfl, decide_eq_true rfl]
  · rw [decide_eq_false h, decide_eq_false]
    intro z
    injection z with z
    exact h (SX.S_inj z)
theorem lg_log {i : Int} (h : Lg i) : i.natAbs.log2 < 1920 := by
  by_cases z : i.natAbs = 0
  · rw [z]
    decide
  · refine (Nat.log2_lt z).mpr (Nat.lt_trans h ?_)
    decide +kernel
theorem lg_len {i : Int} (h : Lg i) : (numI i).length ≤ 41 := numI_len (k := 40) (by decide) (Nat.lt_of_lt_of_le h (by decide))
theorem lg_big {i : Int} (h : Lg i) : Big i := Nat.lt_of_lt_of_le h (by decide +kernel)
section
variable {P : Program} {w : World} {K : PySem.W.Frag} {mg : Str → Option Value} {base : Heap} {CF CC : Addr}
def spIsPlain : Sp := fun vs H Q _ => ∃ w : LL, vs = [.str (SX.S w)] ∧ w.length ≤ 1000000 ∧ ∀ H', Same H H' → Q (.bl (isPlainL w)) H'
abbrev s_is_plain : Stmt := topS 29
abbrev N_is_plain : List Str := ["word", "char"]
theorem sc_is_plain : FnScope N_is_plain ["word"] (defScope s_is_plain) := ⟨rfl, rfl, rfl, by decide +kernel, rfl, by decide +kernel, by decide +kernel⟩
theorem bd_is_plain : BindsN "is_plain" "is_plain" s_is_plain ["word"] := fun _ _ _ _ _ _ us hl => match us, hl with | [_], _ => rfl
theorem in_digits (c : Nat) : decide (c ∈ (Str.ofString "0123456789").cps.toList) = dig c := by
  have e : (Str.ofString "0123456789").cps.toList = [48, 49, 50, 51, 52, 53, 54, 55, 56, 57] := by decide +kernel
  rw [e]
  unfold dig
  by_cases h : 48 ≤ c ∧ c ≤ 57
  · rw [decide_eq_true h.1, decide_eq_true h.2]
    refine decide_eq_true ?_
    simp only [List.mem_cons, List.not_mem_nil, or_false]
    omega
  · rw [decide_eq_false]
    · symm
      rw [Bool.and_eq_false_iff, decide_eq_false_iff_not, decide_eq_false_iff_not]
      omega
    · simp only [List.mem_cons, List.not_mem_nil, or_false]
      omega
theorem ok_is_plain (T : Txt mg) (D : DefAt K mg "is_plain" s_is_plain) : Cal P w K mg base 1 "is_plain" spIsPlain [] := by
  refine cal_of D sc_is_plain bd_is_plain (fun vs H Q E h => ?_) (fun f cdv A outer s H vs Q E hr h => ?_)
  · obtain ⟨u, rfl, _⟩ := h
    rfl
  · obtain ⟨u, rfl, hlen, k⟩ := h
    refine ⟨_, (pss_cons (ps_if (PW.pt (pw_or (pt_cmpR op_eq (pv 0) pe_str (nomark _)) (pw_or (pt_cmpR op_gt (pe_callB call_len_str (by rfl) T.len (by decide +kernel) (pa_cons (pv 0) pa_nil)) (C8.pe_gc (by rfl) T.MOST_DIGITS) (nomark _)) (pw_or1 (pt_not (pt_val (pe_callB (cr_all rfl) (by rfl) T.all (by decide +kernel) (pa_cons (pe_lc (own := [("char", 1)]) (g := (gName 1)) (tt := tYes) rfl sc_is_plain.nd (pi_str (pv 0)) (blkOk_by (N := N_is_plain) (own := [("char", 1)]) (sc := defScope s_is_plain) (by decide +kernel)) (fun _ _ _ _ _ => by exact (pg_name (i := 1) sc_is_plain.nd rfl (.inl rfl))) (fun _ _ _ _ _ => pts_nil) (fun _ _ _ _ _ => by exact (pe_cmpR op_in_sign (pv 1) (C8.pe_gc (by rfl) T.DIGITS) rfl))) pa_nil)))))))) (pss_one (ps_ret pe_bl)) pss_nil)
      (pss_one (ps_ret (pe_or (pe_cmpR op_eq (pv 0) pe_str (nomark _)) (pe_one (pe_cmpR op_ne (pe_ix ix_str (pv 0) pe_int (fun _ _ => rfl)) pe_str (nomark _))))))), ?_⟩
    have hz : (SX.S u).length ≤ sizeLine := by
      rw [SX.S_len]
      exact Nat.le_of_lt (small_size hlen)
    have no : ∀ H', Same H H' → isPlainL u = false → Q (.bl false) H' := fun H' S e => by
      have := k H' S
      rwa [e] at this
    refine ⟨_, rfl, rfl, _, rfl, ite2 (fun c1 => ?_) (fun c1 => ?_)⟩
    · rw [eqS (show Str.ofString "" = SX.S [] by decide +kernel)] at c1
      refine no H (Same.refl H) ?_
      rw [of_decide_eq_true c1]
      rfl
    rw [eqS (show Str.ofString "" = SX.S [] by decide +kernel)] at c1
    have u0 : u ≠ [] := fun z => c1 (decide_eq_true z)
    refine ⟨_, rfl, _, rfl, hz, _, _, rfl, rfl, _, rfl, ite2 (fun c2 => ?_) (fun c2 => ?_)⟩
    · refine no H (Same.refl H) ?_
      have c2 := of_decide_eq_true c2
      have c3 : 60 < u.length := by rw [← SX.S_len u]; omega
      unfold isPlainL
      rw [decide_eq_true c3, Bool.or_true, Bool.true_or]
      rfl
    have c3 : ¬ 60 < u.length := fun z => c2 (decide_eq_true (by rw [SX.S_len]; omega))
    refine ⟨_, rfl, _, rfl, fun D hD => lc_mapS (x := u) (u.map fun c => V.bl (dig c)) hD (by rw [List.length_map]) (by have := small_size hlen; omega) (fun i c y H' Qk N0 hc hy S q => ?_) (fun H' S hD' => ?_)⟩
    · rw [List.getElem?_map, hc] at hy
      cases hy
      refine ⟨rfl, _, rfl, _, _, rfl, rfl, ?_⟩
      rw [in_digits]
      exact q _ (Same.refl _)
    · refine ⟨D, u.map dig, rfl, SqL.of (by rw [hD', List.map_map]; rfl), _, rfl, ite2 (fun c4 => ?_) (fun c4 => ?_)⟩
      · refine no H' S ?_
        rw [List.all_map] at c4
        unfold isPlainL
        rw [show (u.all dig) = (u.all (id ∘ dig)) from rfl]
        rw [c4, Bool.or_true]
        rfl
      have d4 : u.all dig = true := by
        rw [List.all_map] at c4
        have : (!(u.all (id ∘ dig))) = false := by simpa using c4
        simpa using this
      have res : isPlainL u = (u == [48] || !(u.head? == some 48)) := by
        unfold isPlainL
        rw [d4, decide_eq_false c3]
        cases u with
        | nil => exact absurd rfl u0
        | cons a r => rfl
      cases u with
      | nil => exact absurd rfl u0
      | cons a r =>
        refine ⟨_, rfl, rfl, _, rfl, ite2 (fun c5 => ?_) (fun c5 => ?_)⟩
        · rw [eqS (show Str.ofString "0" = SX.S [48] by decide +kernel)] at c5
          have := k H' S
          rw [res, of_decide_eq_true c5] at this
          exact this
        · rw [eqS (show Str.ofString "0" = SX.S [48] by decide +kernel)] at c5
          refine ⟨_, rfl, _, _, a, rfl, rfl, hz, atI_nat (j := 0) rfl, rfl, ?_⟩
          have := k H' S
          rw [res] at this
          rw [show ((a :: r == [48]) = false) from by
            cases z : (a :: r == [48]) with
            | false => rfl
            | true => exact absurd (decide_eq_true (eq_of_beq z)) c5] at this
          rw [eqS (w := [a]) (show Str.ofString "0" = SX.S [48] by decide +kernel)]
          by_cases ha : a = 48
          · subst ha
            exact this
          · have e1 : (some a == some 48) = false := by simpa using ha
            have e2 : decide ([a] = [48]) = false := by simpa using ha
            rw [e2]
            have e3 : (((a :: r).head?) == some 48) = false := e1
            rw [e3] at this
            exact this
def spIsSigned : Sp := fun vs H Q _ => ∃ w : LL, vs = [.str (SX.S w)] ∧ w.length ≤ 1000000 ∧ ∀ H', Same H H' → Q (.bl (isSignedL w)) H'
abbrev s_is_signed : Stmt := topS 30
abbrev N_is_signed : List Str := ["word"]
theorem sc_is_signed : FnScope N_is_signed ["word"] (defScope s_is_signed) := ⟨rfl, rfl, rfl, by decide +kernel, rfl, by decide +kernel, by decide +kernel⟩
theorem bd_is_signed : BindsN "is_signed" "is_signed" s_is_signed ["word"] := fun _ _ _ _ _ _ us hl => match us, hl with | [_], _ => rfl
theorem starts_minus (w : LL) : Txt.startswith (SX.S w) (Str.ofString "-") = decide (w.head? = some 45) := by
  rw [show Str.ofString "-" = SX.S [45] by decide +kernel, Bool.eq_iff_iff, decide_eq_true_iff]
  have h := TL.at_iff (x := SX.S w) (y := SX.S [45]) (by simp) 0
  unfold Txt.startswith
  rw [Bool.and_eq_true, decide_eq_true_iff]
  refine h.trans ?_
  show ((w.take 1 == [45]) = true) ↔ _
  cases w with
  | nil => simp
  | cons c r => simp
theorem ok_is_signed (T : Txt mg) (D : DefAt K mg "is_signed" s_is_signed) (c_is_plain : Cal P w K mg base 1 "is_plain" spIsPlain []) : Cal P w K mg base 2 "is_signed" spIsSigned [] := by
  refine cal_of D sc_is_signed bd_is_signed (fun vs H Q E h => ?_) (fun f cdv A outer s H vs Q E hr h => ?_)
  · obtain ⟨u, rfl, _⟩ := h
    rfl
  · obtain ⟨u, rfl, hlen, k⟩ := h
    refine ⟨_, (pss_cons (ps_if (pt_val (pe_m1 PySem.F.slot_str_startswith PySem.F.type_str_startswith mt_startswith (pv 0) pe_str)) (pss_one (ps_ret (pe_and (pe_cmpR op_ne (pv 0) pe_str (nomark _)) (pe_one (C8.pe_c c_is_plain hr (by decide) (by rfl) (pa_cons (pe_slice C8.sl_txt (pv 0) (po_some pe_int) po_none) pa_nil)))))) pss_nil)
      (pss_one (ps_ret (C8.pe_c c_is_plain hr (by decide) (by rfl) (pa_cons (pv 0) pa_nil))))), ?_⟩
    have hz : (SX.S u).length ≤ sizeLine := by
      rw [SX.S_len]
      exact Nat.le_of_lt (small_size hlen)
    refine ⟨_, rfl, ⟨_, rfl⟩, _, _, rfl, rfl, _, rfl, ite2 (fun c1 => ?_) (fun c1 => ?_)⟩
    · rw [starts_minus] at c1
      have h1 := of_decide_eq_true c1
      have res : isSignedL u = (!(u == [45, 48]) && isPlainL u.tail) := if_pos h1
      refine ⟨_, rfl, rfl, _, rfl, ite2 (fun c2 => ?_) (fun c2 => ?_)⟩
      · rw [eqS (show Str.ofString "-0" = SX.S [45, 48] by decide +kernel)] at c2
        have d2 : ¬ u = [45, 48] := by simpa using c2
        refine ⟨_, rfl, 1, rfl, SX.S u, rfl, hz, ?_⟩
        rw [SX.slice_from (by decide)]
        refine ⟨u.drop 1, rfl, by rw [List.length_drop]; omega, fun H' S => ?_⟩
        have := k H' S
        rw [res, show (u == [45, 48]) = false from by
          cases z : (u == [45, 48]) with
          | false => rfl
          | true => exact absurd (eq_of_beq z) d2, ← List.drop_one] at this
        exact this
      · rw [eqS (show Str.ofString "-0" = SX.S [45, 48] by decide +kernel)] at c2
        have d2 : u = [45, 48] := by simpa using c2
        have := k H (Same.refl H)
        rw [res, d2] at this
        exact this
    · rw [starts_minus] at c1
      have res : isSignedL u = isPlainL u := if_neg fun z => c1 (decide_eq_true z)
      refine ⟨_, rfl, u, rfl, hlen, fun H' S => ?_⟩
      have := k H' S
      rw [res] at this
      exact this
def spPieceLine : Sp := fun vs H Q _ => ∃ x p, vs = [x] ∧ IsPc H x p ∧ Lg p.1 ∧ Lg p.2.1 ∧ Lg p.2.2.1 ∧ Lg p.2.2.2 ∧ ∀ H', Same H H' → Q (.str (SX.S (pieceT p))) H'
abbrev s_piece_line : Stmt := topS 27
abbrev N_piece_line : List Str := ["piece", "start", "line", "number"]
theorem sc_piece_line : FnScope N_piece_line ["piece"] (defScope s_piece_line) := ⟨rfl, rfl, rfl, by decide +kernel, rfl, by decide +kernel, by decide +kernel⟩
theorem bd_piece_line : BindsN "piece_line" "piece_line" s_piece_line ["piece"] := fun _ _ _ _ _ _ us hl => match us, hl with | [_], _ => rfl
theorem ok_piece_line (T : Txt mg) (D : DefAt K mg "piece_line" s_piece_line) : Cal P w K mg base 1 "piece_line" spPieceLine [] := by
  refine cal_of D sc_piece_line bd_piece_line (fun vs H Q E h => ?_) (fun f cdv A outer s H vs Q E hr h => ?_)
  · obtain ⟨x, p, rfl, _⟩ := h
    rfl
  · obtain ⟨x, ⟨i, a, b, c⟩, rfl, ⟨t, v, rfl, ht, ⟨u, rfl, hu⟩⟩, g1, g2, g3, g4, k⟩ := h
    have g1 : Lg i := g1
    have g2 : Lg a := g2
    have g3 : Lg b := g3
    have g4 : Lg c := g4
    refine ⟨_, (pss_cons (ps_asg (pv 0) (pg_tup (by rfl) (pgs_cons (pg_name (i := 1) sc_piece_line.nd rfl (.inl rfl)) (pgs_cons (pg_name (i := 2) sc_piece_line.nd rfl (.inl rfl)) pgs_nil))))
      (pss_one (ps_ret (pe_join pe_str (pe_op op_cat (pe_lst (pa_cons pe_str (pa_cons (pe_callTy call_str_int (by rfl) T.str (by decide +kernel) (pa_cons (pv 1) pa_nil)) pa_nil))) (pe_lc (own := [("number", 3)]) (g := (gName 3)) (tt := tYes) rfl sc_piece_line.nd (pi_tup (pv 2)) (blkOk_by (N := N_piece_line) (own := [("number", 3)]) (sc := defScope s_piece_line) (by decide +kernel)) (fun _ _ _ _ _ => by exact (pg_name (i := 3) sc_piece_line.nd rfl (.inl rfl))) (fun _ _ _ _ _ => pts_nil) (fun _ _ _ _ _ => by exact (pe_callTy call_str_int (by rfl) T.str (by decide +kernel) (pa_cons (pv 3) pa_nil))))))))), ?_⟩
    refine ⟨_, rfl, t, _, rfl, SqT.of ht, rfl, _, _, rfl, _, _, rfl, rfl, ?_⟩
    refine ⟨⟨_, rfl⟩, _, rfl, i, rfl, lg_log g1, (by show 2 ≤ sizeLine; decide), fun q nq => ?_⟩
    have S1 := same_upd (o := .lst [.str (Str.ofString "piece"), .str (Str.ofString (toString i))]) nq
    refine ⟨_, rfl, u, rfl, ⟨_, SqT.of (S1 _ _ hu)⟩, fun D hD => lc_mapT (([a, b, c] : List Int).map fun z => V.str (SX.S (numI z))) hD (S1 _ _ hu) rfl (by show 3 < sizeLine; decide) (fun i' x y H' Qk N0 hx hy S q => ?_) (fun H' S hD' => ?_)⟩
    · rw [List.getElem?_map] at hy
      have hz : ∃ z, ([a, b, c] : List Int)[i']? = some z ∧ x = .int z ∧ Lg z := by
        match i', hx with
        | 0, hx => cases hx; exact ⟨_, rfl, rfl, g2⟩
        | 1, hx => cases hx; exact ⟨_, rfl, rfl, g3⟩
        | 2, hx => cases hx; exact ⟨_, rfl, rfl, g4⟩
        | i + 3, hx => cases hx
      obtain ⟨z, e1, rfl, gz⟩ := hz
      rw [e1] at hy
      cases hy
      refine ⟨rfl, _, rfl, z, rfl, lg_log gz, ?_⟩
      rw [str_int]
      exact q _ (Same.refl _)
    · refine ⟨q, D, _, _, rfl, rfl, S _ _ upd_same, hD', (by show 2 + 3 ≤ sizeLine; decide), fun E nE => ?_⟩
      have l1 := lg_len g1
      have l2 := lg_len g2
      have l3 := lg_len g3
      have l4 := lg_len g4
      refine ⟨_, E, [pieceC, numI i, numI a, numI b, numI c].map SX.S, rfl, rfl, .inl (SqL.of (by rw [upd_same, str_int]; rfl)), ?_, ?_⟩
      · rw [SX.lens, show Str.ofString " " = SX.S [32] by decide +kernel, SX.S_len]
        simp only [List.map, List.sum_cons, List.sum_nil, List.length_cons, List.length_nil, pieceC]
        omega
      · rw [show Str.ofString " " = SX.S [32] by decide +kernel, SX.join_S]
        exact k _ (sameU (S1.trans S) nE)
end
end KW
namespace KW
open PySem PySem.Spec PyProof.Rows L2 KG KT
def vls (ls : List LL) : List V := ls.map fun x => V.str (SX.S x)
theorem vls_app (a b : List LL) : vls (a ++ b) = vls a ++ vls b := List.map_append
theorem vls_len (a : List LL) : (vls a).length = a.length := List.length_map _
theorem vls_str (a : List LL) : vls a = (a.map SX.S).map V.str := by
  rw [List.map_map]
  rfl
theorem body_snoc : ∀ {ps : List Pc} {rs : List L3} {i : Nat} {p : Pc}, ps[i]? = some p → bodyL (ps.take (i + 1)) (rs.take (i + 1)) = bodyL (ps.take i) (rs.take i) ++ (pieceT p :: (match rs[i]? with | some r => [reasonT r] | none => []))
  | [], rs, i, p, h => by simp at h
  | q :: ps, [], 0, p, h => by
    have e : q = p := Option.some.inj h
    subst e
    rfl
  | q :: ps, r :: rs, 0, p, h => by
    have e : q = p := Option.some.inj h
    subst e
    rfl
  | q :: ps, [], i + 1, p, h => by
    have ih := body_snoc (ps := ps) (rs := []) (i := i) (p := p) h
    show pieceT q :: bodyL (ps.take (i + 1)) [] = pieceT q :: bodyL (ps.take i) [] ++ _
    rw [show ([] : List L3).take (i + 1) = [] from rfl, show ([] : List L3).take i = [] by simp] at ih
    rw [ih]
    rfl
  | q :: ps, r :: rs, i + 1, p, h => by
    have ih := body_snoc (ps := ps) (rs := rs) (i := i) (p := p) h
    show pieceT q :: reasonT r :: bodyL (ps.take (i + 1)) (rs.take (i + 1)) = pieceT q :: reasonT r :: bodyL (ps.take i) (rs.take i) ++ _
    rw [ih]
    rfl
theorem body_len : ∀ {ps : List Pc} {rs : List L3}, (bodyL ps rs).length ≤ 2 * ps.length
  | [], _ => Nat.zero_le _
  | p :: ps, [] => by
    have := body_len (ps := ps) (rs := [])
    show (bodyL ps []).length + 1 ≤ 2 * (ps.length + 1)
    omega
  | p :: ps, r :: rs => by
    have := body_len (ps := ps) (rs := rs)
    show (bodyL ps rs).length + 1 + 1 ≤ 2 * (ps.length + 1)
    omega
theorem cut_one {xs : List V} {i : Nat} : cutV xs (some (i : Int)) (some ((i : Int) + 1)) = (xs[i]?).toList := by
  by_cases h : i + 1 ≤ xs.length
  · rw [show ((i : Int) + 1) = ((i + 1 : Nat) : Int) from rfl, cut_nat (by omega) h, show i + 1 - i = 1 by omega]
    rw [List.getElem?_eq_getElem (by omega), List.drop_eq_getElem_cons (by omega)]
    rfl
  · rw [List.getElem?_eq_none (by omega)]
    unfold cutV
    rw [show HT.sIx xs.length 0 (some (i : Int)) = min i xs.length from HT.sIx_nat xs.length 0 i, Nat.min_eq_right (by omega), List.drop_length]
    simp
theorem lgb {p : Pc} (h1 : Lg p.1) (h2 : Lg p.2.1) (h3 : Lg p.2.2.1) (h4 : Lg p.2.2.2) : (pieceT p).length ≤ 200 := by
  refine Nat.le_trans (joinL_len 32 _) ?_
  have := lg_len h1
  have := lg_len h2
  have := lg_len h3
  have := lg_len h4
  simp only [tot_cons, pieceC, List.length_cons, List.length_nil, show tot [] = 0 from rfl]
  omega
theorem lgr {r : L3} (h1 : Lg r.1) (h2 : Lg r.2.1) (h3 : Lg r.2.2) : (reasonT r).length ≤ 200 := by
  refine Nat.le_trans (joinL_len 32 _) ?_
  have := lg_len h1
  have := lg_len h2
  have := lg_len h3
  simp only [tot_cons, reasonC, List.length_cons, List.length_nil, show tot [] = 0 from rfl]
  omega
theorem tot_body : ∀ {ps : List Pc} {rs : List L3}, NumsOK ps rs → tot (bodyL ps rs) ≤ 402 * ps.length
  | [], _, _ => Nat.zero_le _
  | p :: ps, [], h => by
    have := tot_body (ps := ps) (rs := []) ⟨fun x hx => h.p x (List.mem_cons_of_mem _ hx), fun x hx => by cases hx⟩
    obtain ⟨_, a, b, c, _, d⟩ := h.p p (List.mem_cons_self ..)
    have := lgb a b c d
    show tot (pieceT p :: bodyL ps []) ≤ _
    rw [tot_cons, List.length_cons]
    omega
  | p :: ps, r :: rs, h => by
    have := tot_body (ps := ps) (rs := rs) ⟨fun x hx => h.p x (List.mem_cons_of_mem _ hx), fun x hx => h.r x (List.mem_cons_of_mem _ hx)⟩
    obtain ⟨_, a, b, c, _, d⟩ := h.p p (List.mem_cons_self ..)
    have := lgb a b c d
    obtain ⟨_, a, _, b, _, c⟩ := h.r r (List.mem_cons_self ..)
    have := lgr a b c
    show tot (pieceT p :: reasonT r :: bodyL ps rs) ≤ _
    rw [tot_cons, tot_cons, List.length_cons]
    omega
theorem join_size {ls : List LL} {n : Nat} (h : tot ls ≤ n) (hn : n ≤ 10000000) : ((ls.map SX.S).map (·.length)).sum + (ls.map SX.S).length * (SX.S [10]).length ≤ 16777216 := by
  rw [SX.lens, List.length_map, SX.S_len]
  have : (ls.map (·.length)).sum + ls.length = tot ls := by
    clear h
    induction ls with
    | nil => rfl
    | cons x l ih =>
      rw [tot_cons, List.map_cons, List.sum_cons, List.length_cons]
      omega
  show (ls.map (·.length)).sum + ls.length * 1 ≤ _
  rw [Nat.mul_one]
  omega
theorem same_at {H H' : Hp} {p : Addr} {o : HO} (s : Same H H') (h : H p = none) : Same H (upd H' p o) := fun b x e => by
  rw [upd_ne (ne_of_none e h)]
  exact s b x e
section
variable {P : Program} {w : World} {K : PySem.W.Frag} {mg : Str → Option Value} {base : Heap} {CF CC : Addr}
def spWrite (CC : Addr) : Sp := fun vs H Q _ => ∃ c ps rs, vs = [.ref c] ∧ CutAt H c CC ps rs ∧ NumsOK ps rs ∧ ps.length ≤ 1000 ∧ rs.length ≤ ps.length ∧ ∀ H', Same H H' → Q (.str (SX.S (TL.joinL [10] (writeW ps rs)))) H'
abbrev s_write_cutting : Stmt := topS 28
abbrev N_write_cutting : List Str := ["cutting", "lines", "position", "piece", "indexes", "index"]
theorem sc_write_cutting : FnScope N_write_cutting ["cutting"] (defScope s_write_cutting) := ⟨rfl, rfl, rfl, by decide +kernel, rfl, by decide +kernel, by decide +kernel⟩
theorem bd_write_cutting : BindsN "write_cutting" "write_cutting" s_write_cutting ["cutting"] := fun _ _ _ _ _ _ us hl => match us, hl with | [_], _ => rfl
theorem ok_write_cutting (T : Txt mg) (JC : CutC K CC) (D : DefAt K mg "write_cutting" s_write_cutting) (c_piece_line : Cal P w K mg base 1 "piece_line" spPieceLine []) : Cal P w K mg base 2 "write_cutting" (spWrite CC) [] := by
  refine cal_of D sc_write_cutting bd_write_cutting (fun vs H Q E h => ?_) (fun f cdv A outer s H vs Q E hr h => ?_)
  · obtain ⟨x, p, r, rfl, _⟩ := h
    rfl
  · obtain ⟨c, ps, rs, rfl, ⟨dx, l1, l2, hc, ⟨pvs, hP, hpv⟩, ⟨rvs, hR, hrv⟩⟩, NK, hps, hrl, k⟩ := h
    have hLp : pvs.length = ps.length := hpv.length
    have hLr : rvs.length = rs.length := hrv.length
    refine ⟨_, (pss_cons (ps_set (i := 1) sc_write_cutting.nd rfl (.inl rfl) (pe_lst (pa_cons pe_str pa_nil)))
      (pss_cons (ps_for PassesOwn.never rfl (pi_enum (by rfl) T.enumerate (pa_cons (pe_fld (pv 0) rfl) pa_nil)) (pg_tup (by rfl) (pgs_cons (pg_name (i := 2) sc_write_cutting.nd rfl (.inl rfl)) (pgs_cons (pg_name (i := 3) sc_write_cutting.nd rfl (.inl rfl)) pgs_nil))) (pss_cons (ps_expr (pe_bm PySem.F.plainAttrs_list PySem.F.slot_list_append PySem.F.type_list_append mt_append (pv 1) (pa_cons (C8.pe_c c_piece_line hr (by decide) (by rfl) (pa_cons (pv 3) pa_nil)) pa_nil)))
        (pss_one (ps_for PassesOwn.never rfl (pi_list (pe_slice sl_list (pe_fld (pv 0) rfl) (po_some (pv 2)) (po_some (pe_op op_add (pv 2) pe_int)))) (pg_name (i := 4) sc_write_cutting.nd rfl (.inl rfl)) (pss_one (ps_expr (pe_bm PySem.F.plainAttrs_list PySem.F.slot_list_append PySem.F.type_list_append mt_append (pv 1) (pa_cons (pe_join pe_str (pe_op op_cat (pe_lst (pa_cons pe_str pa_nil)) (pe_lc (own := [("index", 5)]) (g := (gName 5)) (tt := tYes) rfl sc_write_cutting.nd (pi_tup (pv 4)) (blkOk_by (N := N_write_cutting) (own := [("index", 5)]) (sc := defScope s_write_cutting) (by decide +kernel)) (fun _ _ _ _ _ => by exact (pg_name (i := 5) sc_write_cutting.nd rfl (.inl rfl))) (fun _ _ _ _ _ => pts_nil) (fun _ _ _ _ _ => by exact (pe_callTy call_str_int (by rfl) T.str (by decide +kernel) (pa_cons (pv 5) pa_nil)))))) pa_nil))))))))
      (pss_one (ps_ret (pe_join pe_str (pv 1)))))), ?_⟩
    refine ⟨(by show 1 ≤ sizeLine; decide), fun L nL => ?_⟩
    refine ⟨_, rfl, _, _, _, _, _, rfl, same_upd nL _ _ hc, JC.cl, JC.pieces, rfl, l1, pvs, rfl, SqL.of (same_upd nL _ _ hP), for_enum (K := K) (a := l1) (xs := pvs) (fun i σ H' => Same H H' ∧ H' L = some (.lst (vls (cuttingC :: bodyL (ps.take i) (rs.take i)))) ∧ ∃ y2 y3 y4 y5, σ = [some (.ref c), some (.ref L), y2, y3, y4, y5])
      ⟨same_upd nL, upd_same, _, _, _, _, rfl⟩ (fun i σ H' _ h => SqL.of (h.1 _ _ hP)) ?_ ?_⟩
    · rintro i x σ H' Tp hx ⟨S1, hL1, y2, y3, y4, y5, rfl⟩ nT
      obtain ⟨p, hp, hxp⟩ := paired_get hpv hx
      obtain ⟨n0, n1, n2, n3, n4, n5⟩ := NK.p p (List.mem_of_getElem? hp)
      have S2 := sameU (o := .tup [.int (i : Int), x]) S1 nT
      have hL2 := same_upd (o := .tup [.int (i : Int), x]) nT _ _ hL1
      refine ⟨Tp, _, rfl, SqT.of upd_same, rfl, _, _, rfl, _, _, rfl, rfl, ?_⟩
      generalize upd H' Tp (.tup [.int (i : Int), x]) = G at S2 hL2
      refine ⟨_, rfl, .inl ⟨rfl, _, SqL.of hL2⟩, _, rfl, x, p, rfl, IsPc.mono _ _ _ _ (sameT S2) hxp, n1, n2, n3, n5, fun G3 S3 => ?_⟩
      have S4 := S2.trans S3
      have hL4 := S3 _ _ hL2
      have TB := tot_body NK
      have bl : (cuttingC :: bodyL (ps.take i) (rs.take i)).length ≤ 3000 := by
        have := body_len (ps := ps.take i) (rs := rs.take i)
        rw [List.length_take] at this
        rw [List.length_cons]
        omega
      refine ⟨L, _, _, rfl, rfl, hL4, small_size (by rw [vls_len]; omega), ?_⟩
      have S5 := same_at (o := .lst (vls (cuttingC :: bodyL (ps.take i) (rs.take i)) ++ [V.str (SX.S (pieceT p))])) S4 nL
      have hL5 := upd_same (H := G3) (a := L) (o := .lst (vls (cuttingC :: bodyL (ps.take i) (rs.take i)) ++ [V.str (SX.S (pieceT p))]))
      rw [show vls (cuttingC :: bodyL (ps.take i) (rs.take i)) ++ [V.str (SX.S (pieceT p))] = vls (cuttingC :: bodyL (ps.take i) (rs.take i) ++ [pieceT p]) by rw [vls_app]; rfl] at hL5 S5 ⊢
      generalize upd G3 L (.lst (vls (cuttingC :: bodyL (ps.take i) (rs.take i) ++ [pieceT p]))) = G5 at S5 hL5
      refine ⟨_, rfl, _, _, _, _, _, rfl, S5 _ _ hc, JC.cl, JC.reasons, rfl, _, rfl, _, rfl, _, rfl, _, _, rfl, rfl, _, rfl, l2, rvs, rfl, SqL.of (S5 _ _ hR), fun sl nsl => ⟨sl, rfl, ⟨_, SqL.of upd_same⟩, ?_⟩⟩
      rw [cut_one]
      have S6 := sameU (o := .lst (rvs[i]?).toList) S5 nsl
      have hL6 := same_upd (o := .lst (rvs[i]?).toList) nsl _ _ hL5
      have hs6 := upd_same (H := G5) (a := sl) (o := .lst (rvs[i]?).toList)
      have nLs : L ≠ sl := ne_of_none hL5 nsl
      generalize upd G5 sl (.lst (rvs[i]?).toList) = G6 at S6 hL6 hs6
      have body := body_snoc (rs := rs) hp
      generalize hex : (match rs[i]? with | some r => [reasonT r] | none => ([] : List LL)) = ex at body
      refine for_list (K := K) (a := sl) (xs := (rvs[i]?).toList) (fun j σ H' => Same H H' ∧ H' sl = some (.lst (rvs[i]?).toList) ∧ H' L = some (.lst (vls (cuttingC :: bodyL (ps.take i) (rs.take i) ++ [pieceT p] ++ ex.take j))) ∧ ∃ y2 y3 y4 y5, σ = [some (.ref c), some (.ref L), y2, y3, y4, y5])
        ⟨S6, hs6, by rw [List.take_zero, List.append_nil]; exact hL6, _, _, _, _, rfl⟩ (fun j σ H' _ h => SqL.of h.2.1) ?_ ?_
      · rintro j x' σ H7 hx' ⟨S7, hs7, hL7, y2, y3, y4, y5, rfl⟩
        have hj : j = 0 ∧ rvs[i]? = some x' := by
          cases e : rvs[i]? with
          | none =>
            rw [e] at hx'
            simp at hx'
          | some y =>
            rw [e] at hx'
            cases j with
            | zero => exact ⟨rfl, hx'⟩
            | succ j => simp at hx'
        obtain ⟨rfl, hx2⟩ := hj
        obtain ⟨⟨a, b, d⟩, hr2, ⟨u, rfl, hu⟩⟩ := paired_get hrv hx2
        obtain ⟨_, m1, _, m2, _, m3⟩ := NK.r _ (List.mem_of_getElem? hr2)
        have m1 : Lg a := m1
        have m2 : Lg b := m2
        have m3 : Lg d := m3
        have hex1 : ex = [reasonT (a, b, d)] := by
          rw [← hex, hr2]
        refine ⟨_, rfl, .inl ⟨rfl, _, SqL.of hL7⟩, ⟨_, rfl⟩, (by show 1 ≤ sizeLine; decide), fun q nq => ?_⟩
        have S8 := sameU (o := .lst [.str (Str.ofString "reason")]) S7 nq
        refine ⟨_, rfl, u, rfl, ⟨_, SqT.of (S8 _ _ hu)⟩, fun D hD => lc_mapT (([a, b, d] : List Int).map fun z => V.str (SX.S (numI z))) hD (S8 _ _ hu) rfl (by show 3 < sizeLine; decide) (fun i' x y H' Qk N0 hx hy S q => ?_) (fun H9 S9 hD9 => ?_)⟩
        · rw [List.getElem?_map] at hy
          have hz : ∃ z, ([a, b, d] : List Int)[i']? = some z ∧ x = .int z ∧ Lg z := by
            match i', hx with
            | 0, hx => cases hx; exact ⟨_, rfl, rfl, m1⟩
            | 1, hx => cases hx; exact ⟨_, rfl, rfl, m2⟩
            | 2, hx => cases hx; exact ⟨_, rfl, rfl, m3⟩
            | i + 3, hx => cases hx
          obtain ⟨z, e1, rfl, gz⟩ := hz
          rw [e1] at hy
          cases hy
          refine ⟨rfl, _, rfl, z, rfl, lg_log gz, ?_⟩
          rw [str_int]
          exact q _ (Same.refl _)
        · refine ⟨q, D, _, _, rfl, rfl, S9 _ _ upd_same, hD9, (by show 1 + 3 ≤ sizeLine; decide), fun E nE => ?_⟩
          have q1 := lg_len m1
          have q2 := lg_len m2
          have q3 := lg_len m3
          have hL9 := S9 _ _ (same_upd (o := .lst [.str (Str.ofString "reason")]) nq _ _ hL7)
          have hs9 := S9 _ _ (same_upd (o := .lst [.str (Str.ofString "reason")]) nq _ _ hs7)
          have SA := sameU (o := .lst ([.str (Str.ofString "reason")] ++ ([a, b, d] : List Int).map fun z => V.str (SX.S (numI z)))) (S8.trans S9) nE
          refine ⟨_, E, [reasonC, numI a, numI b, numI d].map SX.S, rfl, rfl, .inl (SqL.of (by rw [upd_same]; rfl)), ?_, ?_⟩
          · rw [SX.lens, show Str.ofString " " = SX.S [32] by decide +kernel, SX.S_len]
            simp only [List.map, List.sum_cons, List.sum_nil, List.length_cons, List.length_nil, reasonC]
            omega
          · rw [show Str.ofString " " = SX.S [32] by decide +kernel, SX.join_S]
            refine ⟨L, _, _, rfl, rfl, same_upd nE _ _ hL9, small_size (by rw [vls_len, List.length_append, List.length_append, List.length_take]; simp only [List.length_cons, List.length_nil] at bl ⊢; omega), ?_⟩
            refine ⟨same_at SA nL, ?_, ?_, _, _, _, _, rfl⟩
            · rw [upd_ne nLs.symm]
              exact same_upd nE _ _ hs9
            · rw [upd_same, hex1, List.take_zero, List.append_nil, show vls (cuttingC :: bodyL (ps.take i) (rs.take i) ++ [pieceT p] ++ [reasonT (a, b, d)].take (0 + 1)) = vls (cuttingC :: bodyL (ps.take i) (rs.take i) ++ [pieceT p]) ++ [V.str (SX.S (reasonT (a, b, d)))] by rw [vls_app]; rfl]
              rfl
      · rintro σ H7 ⟨S7, hs7, hL7, y2, y3, y4, y5, rfl⟩
        refine ⟨S7, ?_, _, _, _, _, rfl⟩
        rw [hL7, body]
        have e1 : (rvs[i]?).toList.length = ex.length := by
          rw [← hex]
          by_cases z : i < rs.length
          · rw [List.getElem?_eq_getElem z, List.getElem?_eq_getElem (by omega)]
            rfl
          · rw [List.getElem?_eq_none (by omega), List.getElem?_eq_none (by omega)]
            rfl
        rw [e1, List.take_length, List.append_assoc]
        rfl
    · rintro σ H7 ⟨S7, hL7, y2, y3, y4, y5, rfl⟩
      rw [hLp, List.take_length, List.take_of_length_le (by omega)] at hL7
      refine ⟨⟨_, rfl⟩, _, rfl, _, L, (writeW ps rs).map SX.S, rfl, rfl, .inl (SqL.of (by rw [hL7, ← vls_str]; rfl)), ?_, ?_⟩
      · rw [show Str.ofString "\n" = SX.S [10] by decide +kernel]
        refine join_size (n := 1000000) ?_ (by decide)
        have := tot_body NK
        unfold writeW
        rw [tot_cons]
        simp only [cuttingC, List.length_cons, List.length_nil]
        omega
      · rw [show Str.ofString "\n" = SX.S [10] by decide +kernel, SX.join_S]
        exact k _ S7
end
end KW
namespace KW
open PySem PySem.Spec PyProof.Rows L2 KG KT
theorem split_vls (l : LL) (c : Nat) (hc : c < 256) : (Txt.split (SX.S l) (SX.S [c])).map V.str = vls (TL.spl [c] 0 [] l) := by
  rw [SX.split_S (by simp) (by simpa using hc), ← vls_str]
theorem split_size {l : LL} (h : l.length ≤ 1000000) : (SX.S l).length + 2 ≤ sizeLine := by
  rw [SX.S_len]
  exact Nat.le_of_lt (Nat.lt_of_le_of_lt (show l.length + 2 ≤ 1000002 by omega) (by decide))
def PieceV (H : Hp) (v : V) : Option Pc → Prop
  | none => v = .non
  | some p => IsPc H v p
def ReasonV (H : Hp) (v : V) : Option L3 → Prop
  | none => v = .non
  | some r => IsTri H v r
section
variable {P : Program} {w : World} {K : PySem.W.Frag} {mg : Str → Option Value} {base : Heap} {CF CC : Addr}
def spPieceIn : Sp := fun vs H Q _ => ∃ l : LL, vs = [.str (SX.S l)] ∧ l.length ≤ 1000000 ∧ ∀ H' v, Same H H' → PieceV H' v (pieceL l) → Q v H'
abbrev s_piece_in : Stmt := topS 31
abbrev N_piece_in : List Str := ["line", "words"]
theorem sc_piece_in : FnScope N_piece_in ["line"] (defScope s_piece_in) := ⟨rfl, rfl, rfl, by decide +kernel, rfl, by decide +kernel, by decide +kernel⟩
theorem bd_piece_in : BindsN "piece_in" "piece_in" s_piece_in ["line"] := fun _ _ _ _ _ _ us hl => match us, hl with | [_], _ => rfl
theorem ok_piece_in (T : Txt mg) (D : DefAt K mg "piece_in" s_piece_in) (c_is_plain : Cal P w K mg base 1 "is_plain" spIsPlain []) (c_is_signed : Cal P w K mg base 2 "is_signed" spIsSigned []) : Cal P w K mg base 3 "piece_in" spPieceIn [] := by
  refine cal_of D sc_piece_in bd_piece_in (fun vs H Q E h => ?_) (fun f cdv A outer s H vs Q E hr h => ?_)
  · obtain ⟨u, rfl, _⟩ := h
    rfl
  · obtain ⟨l, rfl, hlen, k⟩ := h
    refine ⟨_, (pss_cons (ps_set (i := 1) sc_piece_in.nd rfl (.inl rfl) (pe_split (pv 0) pe_str))
      (pss_cons (ps_if (PW.pt (pw_or (pt_cmpR op_ne (pe_callB call_len_seq (by rfl) T.len (by decide +kernel) (pa_cons (pv 1) pa_nil)) pe_int (nomark _)) (pw_or (pt_cmpR op_ne (pe_ix ix_list (pv 1) pe_int (fun _ _ => rfl)) pe_str (nomark _)) (pw_or (pt_not (pt_val (C8.pe_c c_is_plain hr (by decide) (by rfl) (pa_cons (pe_ix ix_list (pv 1) pe_int (fun _ _ => rfl)) pa_nil)))) (pw_or1 (pt_not (pt_val (C8.pe_c c_is_plain hr (by decide) (by rfl) (pa_cons (pe_ix ix_list (pv 1) pe_int (fun _ _ => rfl)) pa_nil))))))))) (pss_one (ps_ret pe_non)) pss_nil)
      (pss_cons (ps_if (PW.pt (pw_or (pt_not (pt_val (C8.pe_c c_is_signed hr (by decide) (by rfl) (pa_cons (pe_ix ix_list (pv 1) pe_int (fun _ _ => rfl)) pa_nil)))) (pw_or1 (pt_not (pt_val (C8.pe_c c_is_signed hr (by decide) (by rfl) (pa_cons (pe_ix ix_list (pv 1) pe_int (fun _ _ => rfl)) pa_nil))))))) (pss_one (ps_ret pe_non)) pss_nil)
      (pss_one (ps_ret (pe_tup (pa_cons (pe_callTy call_int_str (by rfl) T.int (by decide +kernel) (pa_cons (pe_ix ix_list (pv 1) pe_int (fun _ _ => rfl)) pa_nil)) (pa_cons (pe_tup (pa_cons (pe_callTy call_int_str (by rfl) T.int (by decide +kernel) (pa_cons (pe_ix ix_list (pv 1) pe_int (fun _ _ => rfl)) pa_nil)) (pa_cons (pe_callTy call_int_str (by rfl) T.int (by decide +kernel) (pa_cons (pe_ix ix_list (pv 1) pe_int (fun _ _ => rfl)) pa_nil)) (pa_cons (pe_callTy call_int_str (by rfl) T.int (by decide +kernel) (pa_cons (pe_ix ix_list (pv 1) pe_int (fun _ _ => rfl)) pa_nil)) pa_nil)))) pa_nil)))))))), ?_⟩
    refine ⟨_, rfl, ⟨_, rfl⟩, _, _, rfl, rfl, by decide, split_size hlen, fun W nW => ?_⟩
    rw [show Str.ofString " " = SX.S [32] by decide +kernel, split_vls l 32 (by decide)]
    have tw := tot_words l
    have k : ∀ H' v, Same H H' → PieceV H' v (pieceW (wordsL l)) → Q v H' := k
    have hW := upd_same (H := H) (a := W) (o := .lst (vls (TL.spl [32] 0 [] l)))
    have S1 := same_upd (o := .lst (vls (TL.spl [32] 0 [] l))) nW
    generalize upd H W (.lst (vls (TL.spl [32] 0 [] l))) = H1 at hW S1
    change H1 W = some (.lst (vls (wordsL l))) at hW
    generalize wordsL l = ws at hW k tw
    refine ⟨_, rfl, _, _, rfl, .inl (SqL.of hW), rfl, _, rfl, ite2 (fun c1 => ?_) (fun c1 => ?_)⟩
    · refine k H1 _ S1 ?_
      rw [pieceW_len (fun z => ?_)]
      · rfl
      · rw [vls_len, z] at c1
        simp at c1
    have l5 : ws.length = 5 := by
      rw [vls_len] at c1
      have : V.int (ws.length : Int) = V.int 5 := by simpa using c1
      have := V.int.inj this
      omega
    match ws, l5 with
    | [a, b, c, d, e], _ =>
      have ta := tot_mem (l := [a, b, c, d, e]) (x := a) (by simp)
      have tb := tot_mem (l := [a, b, c, d, e]) (x := b) (by simp)
      have tc := tot_mem (l := [a, b, c, d, e]) (x := c) (by simp)
      have td := tot_mem (l := [a, b, c, d, e]) (x := d) (by simp)
      have te := tot_mem (l := [a, b, c, d, e]) (x := e) (by simp)
      have no : ∀ H', Same H H' → ¬ (a = pieceC ∧ isPlainL b = true ∧ isPlainL e = true ∧ isSignedL c = true ∧ isSignedL d = true) → Q .non H' := fun H' S z => k H' _ S (by
        rw [show pieceW [a, b, c, d, e] = none from if_neg z]
        rfl)
      refine ⟨_, rfl, _, _, _, _, rfl, rfl, SqL.of hW, atI_nat (j := 0) rfl, rfl, _, rfl, ite2 (fun c2 => ?_) (fun c2 => ?_)⟩
      · rw [eqS (show Str.ofString "piece" = SX.S pieceC by decide +kernel)] at c2
        exact no H1 S1 fun z => by simp [z.1] at c2
      rw [eqS (show Str.ofString "piece" = SX.S pieceC by decide +kernel)] at c2
      have d2 : a = pieceC := by simpa using c2
      refine ⟨_, rfl, _, _, _, _, rfl, rfl, SqL.of hW, atI_nat (j := 1) rfl, b, rfl, by omega, fun H2 S2 => ⟨_, rfl, ite2 (fun c3 => ?_) (fun c3 => ?_)⟩⟩
      · exact no H2 (S1.trans S2) fun z => by simp [z.2.1] at c3
      have d3 : isPlainL b = true := by simpa using c3
      refine ⟨_, rfl, _, _, _, _, rfl, rfl, SqL.of (S2 _ _ hW), atI_nat (j := 4) rfl, e, rfl, by omega, fun H3 S3 => ⟨_, rfl, ite2 (fun c4 => ?_) (fun c4 => ?_)⟩⟩
      · exact no H3 ((S1.trans S2).trans S3) fun z => by simp [z.2.2.1] at c4
      have d4 : isPlainL e = true := by simpa using c4
      have hW3 := S3 _ _ (S2 _ _ hW)
      have S13 := (S1.trans S2).trans S3
      refine ⟨_, rfl, _, _, _, _, rfl, rfl, SqL.of hW3, atI_nat (j := 2) rfl, c, rfl, by omega, fun H4 S4 => ⟨_, rfl, ite2 (fun c5 => ?_) (fun c5 => ?_)⟩⟩
      · exact no H4 (S13.trans S4) fun z => by simp [z.2.2.2.1] at c5
      have d5 : isSignedL c = true := by simpa using c5
      refine ⟨_, rfl, _, _, _, _, rfl, rfl, SqL.of (S4 _ _ hW3), atI_nat (j := 3) rfl, d, rfl, by omega, fun H5 S5 => ⟨_, rfl, ite2 (fun c6 => ?_) (fun c6 => ?_)⟩⟩
      · exact no H5 ((S13.trans S4).trans S5) fun z => by simp [z.2.2.2.2] at c6
      have d6 : isSignedL d = true := by simpa using c6
      have hW5 := S5 _ _ (S4 _ _ hW3)
      have S15 := (S13.trans S4).trans S5
      refine ⟨_, rfl, _, _, _, _, rfl, rfl, SqL.of hW5, atI_nat (j := 1) rfl, _, _, rfl, int_plain d3, (by rw [SX.S_len]; have := (plain_is d3).2.1; omega), ?_⟩
      refine ⟨_, rfl, _, _, _, _, rfl, rfl, SqL.of hW5, atI_nat (j := 2) rfl, _, _, rfl, (int_signed d5).2, (by rw [SX.S_len]; have := (int_signed d5).1; omega), ?_⟩
      refine ⟨_, rfl, _, _, _, _, rfl, rfl, SqL.of hW5, atI_nat (j := 3) rfl, _, _, rfl, (int_signed d6).2, (by rw [SX.S_len]; have := (int_signed d6).1; omega), ?_⟩
      refine ⟨_, rfl, _, _, _, _, rfl, rfl, SqL.of hW5, atI_nat (j := 4) rfl, _, _, rfl, int_plain d4, (by rw [SX.S_len]; have := (plain_is d4).2.1; omega), ?_⟩
      refine ⟨(by show 3 ≤ sizeLine; decide), fun t nt => ⟨(by show 2 ≤ sizeLine; decide), fun t2 nt2 => k _ _ (sameU (sameU S15 nt) nt2) ?_⟩⟩
      rw [show pieceW [a, b, c, d, e] = some (intL b, intL c, intL d, intL e) from if_pos ⟨d2, d3, d4, d5, d6⟩]
      exact ⟨t2, .ref t, rfl, upd_same, t, rfl, same_upd nt2 _ _ upd_same⟩
def spReasonIn : Sp := fun vs H Q _ => ∃ l : LL, vs = [.str (SX.S l)] ∧ l.length ≤ 1000000 ∧ ∀ H' v, Same H H' → ReasonV H' v (reasonL l) → Q v H'
abbrev s_reason_in : Stmt := topS 32
abbrev N_reason_in : List Str := ["line", "words", "word"]
theorem sc_reason_in : FnScope N_reason_in ["line"] (defScope s_reason_in) := ⟨rfl, rfl, rfl, by decide +kernel, rfl, by decide +kernel, by decide +kernel⟩
theorem bd_reason_in : BindsN "reason_in" "reason_in" s_reason_in ["line"] := fun _ _ _ _ _ _ us hl => match us, hl with | [_], _ => rfl
theorem ok_reason_in (T : Txt mg) (D : DefAt K mg "reason_in" s_reason_in) (c_is_plain : Cal P w K mg base 1 "is_plain" spIsPlain []) : Cal P w K mg base 2 "reason_in" spReasonIn [] := by
  refine cal_of D sc_reason_in bd_reason_in (fun vs H Q E h => ?_) (fun f cdv A outer s H vs Q E hr h => ?_)
  · obtain ⟨u, rfl, _⟩ := h
    rfl
  · obtain ⟨l, rfl, hlen, k⟩ := h
    refine ⟨_, (pss_cons (ps_set (i := 1) sc_reason_in.nd rfl (.inl rfl) (pe_split (pv 0) pe_str))
      (pss_cons (ps_if (PW.pt (pw_or (pt_cmpR op_ne (pe_callB call_len_seq (by rfl) T.len (by decide +kernel) (pa_cons (pv 1) pa_nil)) pe_int (nomark _)) (pw_or (pt_cmpR op_ne (pe_ix ix_list (pv 1) pe_int (fun _ _ => rfl)) pe_str (nomark _)) (pw_or1 (pt_not (pt_val (pe_callB (cr_all rfl) (by rfl) T.all (by decide +kernel) (pa_cons (pe_lc (own := [("word", 2)]) (g := (gName 2)) (tt := tYes) rfl sc_reason_in.nd (pi_list (pe_slice sl_list (pv 1) (po_some pe_int) po_none)) (blkOk_by (N := N_reason_in) (own := [("word", 2)]) (sc := defScope s_reason_in) (by decide +kernel)) (fun _ _ _ _ _ => by exact (pg_name (i := 2) sc_reason_in.nd rfl (.inl rfl))) (fun _ _ _ _ _ => pts_nil) (fun _ _ _ _ _ => by exact (C8.pe_c c_is_plain hr (by decide) (by rfl) (pa_cons (pv 2) pa_nil)))) pa_nil)))))))) (pss_one (ps_ret pe_non)) pss_nil)
      (pss_one (ps_ret (pe_tup (pa_cons (pe_callTy call_int_str (by rfl) T.int (by decide +kernel) (pa_cons (pe_ix ix_list (pv 1) pe_int (fun _ _ => rfl)) pa_nil)) (pa_cons (pe_callTy call_int_str (by rfl) T.int (by decide +kernel) (pa_cons (pe_ix ix_list (pv 1) pe_int (fun _ _ => rfl)) pa_nil)) (pa_cons (pe_callTy call_int_str (by rfl) T.int (by decide +kernel) (pa_cons (pe_ix ix_list (pv 1) pe_int (fun _ _ => rfl)) pa_nil)) pa_nil)))))))), ?_⟩
    refine ⟨_, rfl, ⟨_, rfl⟩, _, _, rfl, rfl, by decide, split_size hlen, fun W nW => ?_⟩
    rw [show Str.ofString " " = SX.S [32] by decide +kernel, split_vls l 32 (by decide)]
    have tw := tot_words l
    have k : ∀ H' v, Same H H' → ReasonV H' v (reasonW (wordsL l)) → Q v H' := k
    have hW := upd_same (H := H) (a := W) (o := .lst (vls (TL.spl [32] 0 [] l)))
    have S1 := same_upd (o := .lst (vls (TL.spl [32] 0 [] l))) nW
    generalize upd H W (.lst (vls (TL.spl [32] 0 [] l))) = H1 at hW S1
    change H1 W = some (.lst (vls (wordsL l))) at hW
    generalize wordsL l = ws at hW k tw
    refine ⟨_, rfl, _, _, rfl, .inl (SqL.of hW), rfl, _, rfl, ite2 (fun c1 => ?_) (fun c1 => ?_)⟩
    · refine k H1 _ S1 ?_
      rw [reasonW_len (fun z => ?_)]
      · rfl
      · rw [vls_len, z] at c1
        simp at c1
    have l5 : ws.length = 4 := by
      rw [vls_len] at c1
      have : V.int (ws.length : Int) = V.int 4 := by simpa using c1
      have := V.int.inj this
      omega
    match ws, l5 with
    | [a, b, c, d], _ =>
      have ta := tot_mem (l := [a, b, c, d]) (x := a) (by simp)
      have tb := tot_mem (l := [a, b, c, d]) (x := b) (by simp)
      have tc := tot_mem (l := [a, b, c, d]) (x := c) (by simp)
      have td := tot_mem (l := [a, b, c, d]) (x := d) (by simp)
      have no : ∀ H', Same H H' → ¬ (a = reasonC ∧ isPlainL b = true ∧ isPlainL c = true ∧ isPlainL d = true) → Q .non H' := fun H' S z => k H' _ S (by
        rw [show reasonW [a, b, c, d] = none from if_neg z]
        rfl)
      refine ⟨_, rfl, _, _, _, _, rfl, rfl, SqL.of hW, atI_nat (j := 0) rfl, rfl, _, rfl, ite2 (fun c2 => ?_) (fun c2 => ?_)⟩
      · rw [eqS (show Str.ofString "reason" = SX.S reasonC by decide +kernel)] at c2
        exact no H1 S1 fun z => by simp [z.1] at c2
      rw [eqS (show Str.ofString "reason" = SX.S reasonC by decide +kernel)] at c2
      have d2 : a = reasonC := by simpa using c2
      have ec : cutV (vls [a, b, c, d]) (some 1) none = vls [b, c, d] := by
        rw [show (some (1 : Int)) = some ((1 : Nat) : Int) from rfl, cut_from (by rw [vls_len]; simp)]
        rfl
      refine ⟨_, rfl, 1, rfl, W, _, rfl, SqL.of hW, fun sl nsl => ?_⟩
      rw [ec]
      have S2 := sameU (o := .lst (vls [b, c, d])) S1 nsl
      have hW2 := same_upd (o := .lst (vls [b, c, d])) nsl _ _ hW
      refine ⟨sl, rfl, ⟨_, SqL.of upd_same⟩, fun D hD => lc_mapL (([b, c, d] : List LL).map fun z => V.bl (isPlainL z)) hD upd_same rfl (by show 3 < sizeLine; decide) (fun i x y H' Qk N0 hx hy S q => ?_) (fun H3 S3 hD3 => ?_)⟩
      · have hz : ∃ z, x = .str (SX.S z) ∧ y = .bl (isPlainL z) ∧ z.length ≤ 1000000 := by
          match i, hx, hy with
          | 0, hx, hy => cases hx; cases hy; exact ⟨_, rfl, rfl, by omega⟩
          | 1, hx, hy => cases hx; cases hy; exact ⟨_, rfl, rfl, by omega⟩
          | 2, hx, hy => cases hx; cases hy; exact ⟨_, rfl, rfl, by omega⟩
          | i + 3, hx, hy => cases hx
        obtain ⟨z, rfl, rfl, hz⟩ := hz
        exact ⟨rfl, _, rfl, z, rfl, hz, fun H4 S4 => q H4 S4⟩
      · refine ⟨D, [isPlainL b, isPlainL c, isPlainL d], rfl, SqL.of hD3, _, rfl, ite2 (fun c3 => ?_) (fun c3 => ?_)⟩
        · refine no H3 (S2.trans S3) fun z => ?_
          simp [z.2.1, z.2.2.1, z.2.2.2] at c3
        have d3 : isPlainL b = true ∧ isPlainL c = true ∧ isPlainL d = true := by simpa using c3
        have hW3 := S3 _ _ hW2
        refine ⟨_, rfl, _, _, _, _, rfl, rfl, SqL.of hW3, atI_nat (j := 1) rfl, _, _, rfl, int_plain d3.1, (by rw [SX.S_len]; have := (plain_is d3.1).2.1; omega), ?_⟩
        refine ⟨_, rfl, _, _, _, _, rfl, rfl, SqL.of hW3, atI_nat (j := 2) rfl, _, _, rfl, int_plain d3.2.1, (by rw [SX.S_len]; have := (plain_is d3.2.1).2.1; omega), ?_⟩
        refine ⟨_, rfl, _, _, _, _, rfl, rfl, SqL.of hW3, atI_nat (j := 3) rfl, _, _, rfl, int_plain d3.2.2, (by rw [SX.S_len]; have := (plain_is d3.2.2).2.1; omega), ?_⟩
        refine ⟨(by show 3 ≤ sizeLine; decide), fun t nt => k _ _ (sameU (S2.trans S3) nt) ?_⟩
        rw [show reasonW [a, b, c, d] = some (intL b, intL c, intL d) from if_pos ⟨d2, d3.1, d3.2.1, d3.2.2⟩]
        exact ⟨t, rfl, upd_same⟩
end
end KW
namespace KW
open PySem PySem.Spec PyProof.Rows L2 KG KT
theorem spl_ne (s : Nat) : ∀ (l acc : LL), TL.spl [s] 0 acc l ≠ []
  | [], acc => by
    rw [TL.spl_nil]
    exact List.cons_ne_nil _ _
  | c :: r, acc => by
    cases h : TL.pre [s] (c :: r) with
    | true =>
      rw [TL.spl_hit h]
      exact List.cons_ne_nil _ _
    | false =>
      rw [TL.spl_miss h]
      exact spl_ne s r _
/-- a def that may raise, as Cal -/
structure CalX (P : Program) (w : World) (K : PySem.W.Frag) (mg : Str → Option Value) (base : Heap) (k : Nat) (x : Str) (sp : Sp) : Prop where
  ex : ∃ (f : Addr) (fd : FuncData) (ps : List Str), FnOk P w K mg base (L2.CX P w) k f fd ps sp ∧ mg x = some (.ref f) ∧ PySem.W.keepIn K (.ref f) = true ∧ Binds K fd ps []
theorem calX_of {P : Program} {w : World} {K : PySem.W.Frag} {mg : Str → Option Value} {base : Heap} {x : Str} {st : Stmt} {N ps : List Str} {k : Nat} {sp : Sp} (D : DefAt K mg x st) (S : FnScope N ps (defScope st)) (hb : BindsN x x st ps)
    (len : ∀ vs H Q E, sp vs H Q E → vs.length = ps.length)
    (hbody : ∀ (f : Addr) (cdv : Value) (A : Around) (outer : List Env) (s : Shared) (H : Hp) (vs : List V) (Q : VK) (E : XK), Room k (A.deeper (envOfC x (defScope st) s.heap.objs.size f cdv)) → sp vs H Q E →
      ∃ t, PSs (cxOf (L2.CX P w) P w K mg base N x (defScope st) f cdv A outer s H E) (defBody st) t ∧ t { nx := fun _ H' => Q .non H', rt := Q } (start N vs) H) : CalX P w K mg base (k + 1) x sp := by
  obtain ⟨f, fd, F, hm⟩ := D
  exact ⟨f, fd, ps, F.ok S len (fun cdv A outer s H vs Q E hr h => hbody f cdv A outer s H vs Q E hr h), hm, F.kp, F.bindsN hb⟩
section
variable {P : Program} {w : World} {K : PySem.W.Frag} {mg : Str → Option Value} {base : Heap} {CF CC CI fI : Addr}
def spRead (CC CI : Addr) : Sp := fun vs H Q E => ∃ t : LL, vs = [.str (SX.S t)] ∧ t.length ≤ 500000 ∧ (∀ ps rs, readL t = some (ps, rs) → ∀ H' c, Same H H' → CutAt H' c CC ps rs → Q (.ref c) H') ∧ (readL t = none → ∀ H' d, Same H H' → E (.ref CI) (some d) H')
abbrev s_read_cutting : Stmt := topS 33
abbrev N_read_cutting : List Str := ["text", "lines", "pieces", "reasons", "position", "found"]
theorem sc_read_cutting : FnScope N_read_cutting ["text"] (defScope s_read_cutting) := ⟨rfl, rfl, rfl, by decide +kernel, rfl, by decide +kernel, by decide +kernel⟩
theorem bd_read_cutting : BindsN "read_cutting" "read_cutting" s_read_cutting ["text"] := fun _ _ _ _ _ _ us hl => match us, hl with | [_], _ => rfl
theorem ok_read_cutting (T : Txt mg) (JC : CutC K CC) (IP : KX.IpTxt P K mg CI fI) (D : DefAt K mg "read_cutting" s_read_cutting) (c_piece_in : Cal P w K mg base 3 "piece_in" spPieceIn []) (c_reason_in : Cal P w K mg base 2 "reason_in" spReasonIn [])
    (c_Cutting : C8.Mak P w K mg base 1 "Cutting" CC (spCutInit CC) []) : CalX P w K mg base 4 "read_cutting" (spRead CC CI) := by
  refine calX_of D sc_read_cutting bd_read_cutting (fun vs H Q E h => ?_) (fun f cdv A outer s H vs Q E hr h => ?_)
  · obtain ⟨u, rfl, _⟩ := h
    rfl
  · obtain ⟨tx, rfl, hlen, kY, kN⟩ := h
    refine ⟨_, (pss_cons (ps_set (i := 1) sc_read_cutting.nd rfl (.inl rfl) (pe_split (pv 0) pe_str))
      (pss_cons (ps_if (pt_cmpR op_ne (pe_ix ix_list (pv 1) pe_int (fun _ _ => rfl)) pe_str (nomark _)) (pss_one (KX.ps_raiseIp rfl IP hr (takes_of rfl rfl rfl rfl) (by exact (pa_cons pe_int pa_nil)))) pss_nil)
      (pss_cons (ps_set (i := 2) sc_read_cutting.nd rfl (.inl rfl) (pe_lst pa_nil))
      (pss_cons (ps_set (i := 3) sc_read_cutting.nd rfl (.inl rfl) (pe_lst pa_nil))
      (pss_cons (ps_for (passes_of rfl) rfl (pi_range2 rfl T.range (pa_cons pe_int (pa_cons (pe_callB call_len_seq (by rfl) T.len (by decide +kernel) (pa_cons (pv 1) pa_nil)) pa_nil))) (pg_name (i := 4) sc_read_cutting.nd rfl (.inl rfl)) (pss_cons (ps_if (pt_cmpR op_eq (pe_op op_mod (pv 4) pe_int) pe_int (nomark _)) (pss_cons (ps_set (i := 5) sc_read_cutting.nd rfl (.inl rfl) (C8.pe_c c_piece_in hr (by decide) (by rfl) (pa_cons (pe_ix ix_list (pv 1) (pv 4) (fun _ _ => rfl)) pa_nil)))
          (pss_one (ps_expr (pe_bm PySem.F.plainAttrs_list PySem.F.slot_list_append PySem.F.type_list_append mt_append (pv 2) (pa_cons (pv 5) pa_nil))))) (pss_cons (ps_set (i := 5) sc_read_cutting.nd rfl (.inl rfl) (C8.pe_c c_reason_in hr (by decide) (by rfl) (pa_cons (pe_ix ix_list (pv 1) (pv 4) (fun _ _ => rfl)) pa_nil)))
          (pss_one (ps_expr (pe_bm PySem.F.plainAttrs_list PySem.F.slot_list_append PySem.F.type_list_append mt_append (pv 3) (pa_cons (pv 5) pa_nil))))))
        (pss_one (ps_if (pt_cmpR op_isN (pv 5) pe_non (nomark _)) (pss_one (KX.ps_raiseIp rfl IP hr (takes_of rfl rfl rfl rfl) (by exact (pa_cons (pe_op op_add (pv 4) pe_int) pa_nil)))) pss_nil))))
      (pss_cons (ps_if (PW.pt (pw_and (pt_cmpR op_gt (pe_callB call_len_seq (by rfl) T.len (by decide +kernel) (pa_cons (pv 1) pa_nil)) pe_int (nomark _)) (pw_and1 (pt_cmpR op_eq (pe_callB call_len_seq (by rfl) T.len (by decide +kernel) (pa_cons (pv 3) pa_nil)) (pe_callB call_len_seq (by rfl) T.len (by decide +kernel) (pa_cons (pv 2) pa_nil)) (nomark _))))) (pss_one (KX.ps_raiseIp rfl IP hr (takes_of rfl rfl rfl rfl) (by exact (pa_cons (pe_op op_add (pe_callB call_len_seq (by rfl) T.len (by decide +kernel) (pa_cons (pv 1) pa_nil)) pe_int) pa_nil)))) pss_nil)
      (pss_one (ps_ret (C8.pe_mk c_Cutting hr (by decide) (by rfl) (pa_cons (pv 2) (pa_cons (pv 3) pa_nil))))))))))), ?_⟩
    refine ⟨_, rfl, ⟨_, rfl⟩, _, _, rfl, rfl, by decide, split_size (by omega), fun W nW => ?_⟩
    rw [show Str.ofString "\n" = SX.S [10] by decide +kernel, split_vls tx 10 (by decide)]
    have tw := tot_lines tx
    have kY : ∀ ps rs, readW (linesL tx) = some (ps, rs) → ∀ H' c, Same H H' → CutAt H' c CC ps rs → Q (.ref c) H' := kY
    have kN : readW (linesL tx) = none → ∀ H' d, Same H H' → E (.ref CI) (some d) H' := kN
    have hW := upd_same (H := H) (a := W) (o := .lst (vls (TL.spl [10] 0 [] tx)))
    have S1 := same_upd (o := .lst (vls (TL.spl [10] 0 [] tx))) nW
    generalize upd H W (.lst (vls (TL.spl [10] 0 [] tx))) = H1 at hW S1
    change H1 W = some (.lst (vls (linesL tx))) at hW
    have hne : linesL tx ≠ [] := spl_ne 10 tx []
    generalize linesL tx = ls at hW kY kN tw hne
    cases ls with
    | nil => exact absurd rfl hne
    | cons h rest =>
    have tr := tot_len (h :: rest)
    rw [List.length_cons] at tr
    refine ⟨_, rfl, _, _, _, _, rfl, rfl, SqL.of hW, atI_nat (j := 0) rfl, rfl, _, rfl, ite2 (fun c1 => ?_) (fun c1 => ?_)⟩
    · rw [eqS (show Str.ofString "cutting" = SX.S cuttingC by decide +kernel)] at c1
      refine ⟨1, rfl, by decide, by decide, fun d hd => kN (readW_not fun z => by simp [z] at c1) _ _ (S1.trans (same_upd hd))⟩
    rw [eqS (show Str.ofString "cutting" = SX.S cuttingC by decide +kernel)] at c1
    have d1 : h = cuttingC := by simpa using c1
    subst d1
    refine ⟨(by show 0 ≤ sizeLine; decide), fun aP nP => ⟨(by show 0 ≤ sizeLine; decide), fun aR nR => ?_⟩⟩
    have nR1 : H1 aR = none := by
      have : aR ≠ aP := fun z => by
        rw [z, upd_same] at nR
        cases nR
      rwa [upd_ne this] at nR
    have nPR : aP ≠ aR := fun z => by
      rw [← z, upd_same] at nR
      cases nR
    refine ⟨_, rfl, _, _, rfl, .inl (SqL.of (same_upd nR _ _ (same_upd nP _ _ hW))), _, _, rfl, (by rw [vls_len, List.length_cons]; omega), for_range (lo := 1) (n := (((vls (cuttingC :: rest)).length : Int) - 1).toNat)
      (fun i σ H' => Same H1 H' ∧ (∃ y4 y5, σ = [some (.str (SX.S tx)), some (.ref W), some (.ref aP), some (.ref aR), y4, y5]) ∧ ∃ ps rs, LsOf IsPc H' aP ps ∧ LsOf IsTri H' aR rs ∧ ps.length ≤ i ∧ rs.length ≤ i ∧ goL (decide (i % 2 = 0)) (rest.drop i) ps rs = goL true rest [] [])
      ⟨(same_upd nP).trans (same_upd nR), ⟨_, _, rfl⟩, [], [], ⟨[], same_upd nR _ _ upd_same, .nil⟩, ⟨[], upd_same, .nil⟩, Nat.le_refl _, Nat.le_refl _, rfl⟩ ?_ ?_⟩
    · rintro i σ H2 hi ⟨S2, ⟨y4, y5, rfl⟩, ps, rs, ⟨pv, hP, hpv⟩, ⟨rv, hR, hrv⟩, lp, lr, hg⟩
      rw [vls_len, List.length_cons] at hi
      have hi : i < rest.length := by omega
      have gx := List.getElem?_eq_getElem hi
      have dx := List.drop_eq_getElem_cons hi
      generalize rest[i] = x at gx dx
      rw [dx] at hg
      have hx : (vls (cuttingC :: rest))[i + 1]? = some (.str (SX.S x)) := by
        show ((cuttingC :: rest).map _)[i + 1]? = _
        rw [List.getElem?_map]
        show (rest[i]?).map _ = _
        rw [gx]
        rfl
      have lx : x.length ≤ 1000000 := by
        have := tot_mem (l := cuttingC :: rest) (x := x) (List.mem_cons_of_mem _ (List.mem_of_getElem? gx))
        omega
      have S12 := S1.trans S2
      have hW2 := S2 _ _ hW
      refine ⟨_, rfl, _, _, rfl, rfl, (by show (0 : Int) < 2; decide), rfl, _, rfl, ite2 (fun c2 => ?_) (fun c2 => ?_)⟩
      · have e2 : decide (i % 2 = 0) = true := by
          have : V.int ((1 + (i : Int)) % 2) = V.int 1 := of_decide_eq_true c2
          have := V.int.inj this
          exact decide_eq_true (by omega)
        rw [e2] at hg
        refine ⟨_, rfl, _, rfl, _, _, _, _, rfl, rfl, SqL.of hW2, at_of (j := i + 1) (by omega) hx, x, rfl, lx, fun H3 v S3 hv => ⟨_, rfl, .inl ⟨rfl, _, SqL.of (S3 _ _ hP)⟩, _, rfl, aP, pv, v, rfl, rfl, S3 _ _ hP, small_size (by rw [hpv.length]; omega), ?_⟩⟩
        have S4 := same_at (o := .lst (pv ++ [v])) (S2.trans S3) nP
        have t3 : ∀ b xs, H3 b = some (.tup xs) → (upd H3 aP (.lst (pv ++ [v]))) b = some (.tup xs) := fun b xs q => by
          rw [upd_ne (fun z => by
            rw [z, S3 _ _ hP] at q
            cases q)]
          exact q
        refine ⟨_, rfl, rfl, _, rfl, ite2 (fun c3 => ?_) (fun c3 => ?_)⟩
        · have ev : v = .non := of_decide_eq_true c3
          have hn : goL true rest [] [] = none := by
            rw [← hg]
            unfold goL
            cases e : pieceL x with
            | none => rfl
            | some p =>
              rw [e, ev] at hv
              obtain ⟨_, _, z, _⟩ := hv
              cases z
          exact ⟨_, rfl, _, _, rfl, rfl, _, rfl, (by omega), (by omega), fun d hd => kN (readW_none hn) _ _ ((S1.trans S4).trans (same_upd hd))⟩
        · cases e : pieceL x with
          | none =>
            rw [e] at hv
            have : v = .non := hv
            rw [this] at c3
            exact absurd (decide_eq_true rfl) c3
          | some p =>
            rw [e] at hv
            refine ⟨S4, ⟨_, _, rfl⟩, ps ++ [p], rs, ⟨pv ++ [v], upd_same, ?_⟩, ⟨rv, ?_, ?_⟩, by rw [List.length_append]; simp; omega, by omega, ?_⟩
            · exact paired_app (pairedSame IsPc.mono (fun b xs q => t3 b xs (S3 _ _ q)) hpv) (.cons (IsPc.mono _ _ _ _ t3 hv) .nil)
            · rw [upd_ne nPR.symm]
              exact S3 _ _ hR
            · exact pairedSame IsTri.mono (fun b xs q => t3 b xs (S3 _ _ q)) hrv
            · rw [← hg, goL_t e, decide_eq_false (show ¬ (i + 1) % 2 = 0 by have := of_decide_eq_true e2; omega)]
      · have e2 : decide (i % 2 = 0) = false := by
          refine decide_eq_false fun z => c2 (decide_eq_true ?_)
          show V.int ((1 + (i : Int)) % 2) = V.int 1
          congr 1
          omega
        rw [e2] at hg
        refine ⟨_, rfl, _, rfl, _, _, _, _, rfl, rfl, SqL.of hW2, at_of (j := i + 1) (by omega) hx, x, rfl, lx, fun H3 v S3 hv => ⟨_, rfl, .inl ⟨rfl, _, SqL.of (S3 _ _ hR)⟩, _, rfl, aR, rv, v, rfl, rfl, S3 _ _ hR, small_size (by rw [hrv.length]; omega), ?_⟩⟩
        have S4 := same_at (o := .lst (rv ++ [v])) (S2.trans S3) nR1
        have t3 : ∀ b xs, H3 b = some (.tup xs) → (upd H3 aR (.lst (rv ++ [v]))) b = some (.tup xs) := fun b xs q => by
          rw [upd_ne (fun z => by
            rw [z, S3 _ _ hR] at q
            cases q)]
          exact q
        refine ⟨_, rfl, rfl, _, rfl, ite2 (fun c3 => ?_) (fun c3 => ?_)⟩
        · have ev : v = .non := of_decide_eq_true c3
          have hn : goL true rest [] [] = none := by
            rw [← hg]
            unfold goL
            cases e : reasonL x with
            | none => rfl
            | some p =>
              rw [e, ev] at hv
              obtain ⟨_, z, _⟩ := hv
              cases z
          exact ⟨_, rfl, _, _, rfl, rfl, _, rfl, (by omega), (by omega), fun d hd => kN (readW_none hn) _ _ ((S1.trans S4).trans (same_upd hd))⟩
        · cases e : reasonL x with
          | none =>
            rw [e] at hv
            have : v = .non := hv
            rw [this] at c3
            exact absurd (decide_eq_true rfl) c3
          | some p =>
            rw [e] at hv
            refine ⟨S4, ⟨_, _, rfl⟩, ps, rs ++ [p], ⟨pv, ?_, ?_⟩, ⟨rv ++ [v], upd_same, ?_⟩, by omega, by rw [List.length_append]; simp; omega, ?_⟩
            · rw [upd_ne nPR]
              exact S3 _ _ hP
            · exact pairedSame IsPc.mono (fun b xs q => t3 b xs (S3 _ _ q)) hpv
            · exact paired_app (pairedSame IsTri.mono (fun b xs q => t3 b xs (S3 _ _ q)) hrv) (.cons (IsTri.mono _ _ _ _ t3 hv) .nil)
            · rw [← hg, goL_f e, decide_eq_true (show (i + 1) % 2 = 0 by have := of_decide_eq_false e2; omega)]
    · rintro σ H2 ⟨S2, ⟨y4, y5, rfl⟩, ps, rs, ⟨pv, hP, hpv⟩, ⟨rv, hR, hrv⟩, lp, lr, hg⟩
      rw [show (((vls (cuttingC :: rest)).length : Int) - 1).toNat = rest.length by rw [vls_len, List.length_cons]; omega, List.drop_length, goL_nil] at hg
      have hr := readW_some hg.symm
      have S12 := S1.trans S2
      have finish : ¬ (rest ≠ [] ∧ rs.length = ps.length) → ∀ (x dx : Addr), H2 x = none → H2 dx = none → dx ≠ x → spCutInit CC [.ref x, .ref aP, .ref aR] (upd (upd H2 dx (.own x)) x (.ins CC dx [])) (fun v H3 => v = .non ∧ Q (.ref x) H3) C8.E0 := fun cnd x dx nx nd ne => by
        have S9 : ∀ b o, H2 b = some o → (upd (upd H2 dx (.own x)) x (.ins CC dx [])) b = some o := fun b o q => by
          rw [upd_ne (ne_of_none q nx), upd_ne (ne_of_none q nd)]
          exact q
        refine ⟨x, dx, aP, aR, pv, rv, rfl, upd_same, S9 _ _ hP, S9 _ _ hR, fun H4 l1 l2 dx' kp h1 h2 h3 => ⟨rfl, ?_⟩⟩
        have S4 : Same H2 H4 := fun b o q => kp b o (S9 b o q) (ne_of_none q nx)
        rw [if_neg cnd] at hr
        exact kY ps rs hr H4 x (S12.trans S4) ⟨dx', l1, l2, h1, ⟨pv, h2, pairedSame IsPc.mono (sameT S4) hpv⟩, ⟨rv, h3, pairedSame IsTri.mono (sameT S4) hrv⟩⟩
      have hLp : pv.length = ps.length := hpv.length
      have hLr : rv.length = rs.length := hrv.length
      refine ⟨_, rfl, _, _, rfl, .inl (SqL.of (S2 _ _ hW)), _, _, rfl, rfl, _, rfl, ite2 (fun c4 => ?_) (fun c4 => ?_)⟩
      · have d4 : rest ≠ [] := fun z => by
          have := of_decide_eq_true c4
          rw [vls_len, z] at this
          simp at this
        refine ⟨_, rfl, _, _, rfl, .inl (SqL.of hR), _, rfl, _, _, rfl, .inl (SqL.of hP), rfl, _, rfl, ite2 (fun c5 => ?_) (fun c5 => ?_)⟩
        · have d5 : rs.length = ps.length := by
            have := V.int.inj (of_decide_eq_true c5)
            omega
          rw [if_pos ⟨d4, d5⟩] at hr
          refine ⟨_, rfl, _, _, rfl, .inl (SqL.of (S2 _ _ hW)), _, _, rfl, rfl, _, rfl, (by omega), (by rw [vls_len, List.length_cons]; omega), fun d hd => kN hr _ _ (S12.trans (same_upd hd))⟩
        · refine ⟨_, rfl, _, rfl, finish fun z => c5 (decide_eq_true ?_)⟩
          rw [hLp, hLr, z.2]
      · refine ⟨_, rfl, _, rfl, finish fun z => c4 (decide_eq_true ?_)⟩
        rw [vls_len, List.length_cons]
        have := List.length_pos_iff.mpr z.1
        omega
/-! ### the audit -/
def AuditV (pts : List P2) (e : Int) (t : LL) (v : V) : Prop := (v = .non ∧ ∀ ps rs, readL t = some (ps, rs) → ¬ Judged pts e ps rs) ∨ ∃ ps rs, readL t = some (ps, rs) ∧ Judged pts e ps rs ∧ v = .int (ps.length : Nat)
theorem AuditV.det {pts : List P2} {e : Int} {t : LL} {v u : V} (h : AuditV pts e t v) (g : AuditV pts e t u) : v = u := by
  rcases h with ⟨rfl, h⟩ | ⟨ps, rs, h1, h2, rfl⟩
  · rcases g with ⟨rfl, _⟩ | ⟨ps', rs', g1, g2, rfl⟩
    · rfl
    · exact absurd g2 (h _ _ g1)
  · rcases g with ⟨rfl, g⟩ | ⟨ps', rs', g1, g2, rfl⟩
    · exact absurd h2 (g _ _ h1)
    · rw [h1] at g1
      cases g1
      rfl
def spAudit : Sp := fun vs H Q _ => ∃ a pts e t, vs = [.ref a, .int e, .str (SX.S t)] ∧ LsOf IsPt H a pts ∧ (∀ p ∈ pts, SmP p) ∧ Sm e ∧ pts.length ≤ 900 ∧ t.length ≤ 95000 ∧ ∀ H' v, Same H H' → AuditV pts e t v → Q v H'
abbrev s_audit : Stmt := topS 34
abbrev N_audit : List Str := ["points", "error", "text", "cutting"]
theorem sc_audit : FnScope N_audit ["points", "error", "text"] (defScope s_audit) := ⟨rfl, rfl, rfl, by decide +kernel, rfl, by decide +kernel, by decide +kernel⟩
theorem bd_audit : BindsN "audit" "audit" s_audit ["points", "error", "text"] := fun _ _ _ _ _ _ us hl => match us, hl with | [_, _, _], _ => rfl
theorem ok_audit (T : Txt mg) (JC : CutC K CC) (IP : KX.IpTxt P K mg CI fI) (D : DefAt K mg "audit" s_audit) (c_read : CalX P w K mg base 4 "read_cutting" (spRead CC CI)) (c_judge : Cal P w K mg base 3 "judge" (spJudge CC) []) : Cal P w K mg base 5 "audit" spAudit [] := by
  refine cal_of D sc_audit bd_audit (fun vs H Q E h => ?_) (fun f cdv A outer s H vs Q E hr h => ?_)
  · obtain ⟨a, pts, e, t, rfl, _⟩ := h
    rfl
  · obtain ⟨a, pts, e, t, rfl, hA, sp, se, hlen, ht, k⟩ := h
    obtain ⟨fR, fdR, psR, FR, gR, kR, bR⟩ := c_read.ex
    refine ⟨_, (pss_cons (ps_try_only (tb := fun W => tAsg (tCallS (spRead CC CI) (WE W) (tCons (tVar 2) tNil)) (gName 3)) (ts := fun _ _ _ => tRet (tC .non)) (Wout := fun _ _ _ _ => False) rfl rfl ⟨rfl, by decide, .inl IP.gC⟩ takes0 (fun W pn xe tk _ => pss_one (ps_set (i := 3) sc_audit.nd rfl (.inl rfl) (by exact (pe_callS FR (hr.mono (by decide)) rfl gR kR bR (fun σ => passAt tk σ) (by exact (pa_cons (pv 2) pa_nil)))))) (fun a oe cls d pn _ _ => pss_one (ps_ret pe_non)))
      (pss_cons (ps_if (pt_not (pt_val (C8.pe_c c_judge hr (by decide) (by rfl) (pa_cons (pv 0) (pa_cons (pv 1) (pa_cons (pv 3) pa_nil)))))) (pss_one (ps_ret pe_non)) pss_nil)
      (pss_one (ps_ret (pe_callB call_len_seq (by rfl) T.len (by decide +kernel) (pa_cons (pe_fld (pv 3) rfl) pa_nil)))))), ?_⟩
    refine ⟨_, rfl, t, rfl, by omega, fun ps rs hrd H2 c S2 hC => ?_, fun hn H2 d S2 => ?_⟩
    · have lps := read_len hrd
      refine ⟨_, rfl, _, rfl, _, rfl, a, c, pts, e, ps, rs, rfl, hA.same IsPt.mono S2, sp, se, hlen, hC, by omega, fun H3 b S3 hb => ⟨_, rfl, ite2 (fun c1 => ?_) (fun c1 => ?_)⟩⟩
      · refine k H3 _ (S2.trans S3) (.inl ⟨rfl, fun ps' rs' h' => ?_⟩)
        rw [hrd] at h'
        cases h'
        intro z
        rw [hb.mpr z] at c1
        cases c1
      · obtain ⟨dx, l1, l2, hc, ⟨pv, hP, hpv⟩, hR⟩ := hC.same S3
        refine ⟨_, rfl, _, _, _, _, _, rfl, hc, JC.cl, JC.pieces, rfl, _, _, rfl, .inl (SqL.of hP), ?_⟩
        rw [hpv.length]
        exact k H3 _ (S2.trans S3) (.inr ⟨ps, rs, hrd, hb.mp (by simpa using c1), rfl⟩)
    · refine ⟨true, IP.te, fun _ a0 _ => ?_, fun q => Bool.noConfusion q⟩
      exact k H2 _ S2 (.inl ⟨rfl, fun ps rs h' => by
        rw [hn] at h'
        cases h'⟩)
abbrev s_l_due : Stmt := topS 49
abbrev N_l_due : List Str := ["_law_points_here", "_law_error_here", "_law_text", "_law_cutting"]
theorem sc_l_due : FnScope N_l_due ["_law_points_here", "_law_error_here", "_law_text"] (defScope s_l_due) := ⟨rfl, rfl, rfl, by decide +kernel, rfl, by decide +kernel, by decide +kernel⟩
theorem bd_l_due : BindsN "_law_due" "_law_due" s_l_due ["_law_points_here", "_law_error_here", "_law_text"] := fun _ _ _ _ _ _ us hl => match us, hl with | [_, _, _], _ => rfl
theorem ok_l_due (T : Txt mg) (JC : CutC K CC) (IP : KX.IpTxt P K mg CI fI) (D : DefAt K mg "_law_due" s_l_due) (c_read : CalX P w K mg base 4 "read_cutting" (spRead CC CI)) (c_judge : Cal P w K mg base 3 "judge" (spJudge CC) []) : Cal P w K mg base 5 "_law_due" spAudit [] := by
  refine cal_of D sc_l_due bd_l_due (fun vs H Q E h => ?_) (fun f cdv A outer s H vs Q E hr h => ?_)
  · obtain ⟨a, pts, e, t, rfl, _⟩ := h
    rfl
  · obtain ⟨a, pts, e, t, rfl, ⟨vs, ha, hvs⟩, sp, se, hlen, ht, k⟩ := h
    obtain ⟨fR, fdR, psR, FR, gR, kR, bR⟩ := c_read.ex
    refine ⟨_, (pss_cons (ps_try_only (tb := fun W => tAsg (tCallS (spRead CC CI) (WE W) (tCons (tVar 2) tNil)) (gName 3)) (ts := fun _ _ _ => tRet (tC .non)) (Wout := fun _ _ _ _ => False) rfl rfl ⟨rfl, by decide, .inl IP.gC⟩ takes0 (fun W pn xe tk _ => pss_one (ps_set (i := 3) sc_l_due.nd rfl (.inl rfl) (by exact (pe_callS FR (hr.mono (by decide)) rfl gR kR bR (fun σ => passAt tk σ) (by exact (pa_cons (pv 2) pa_nil)))))) (fun a oe cls d pn _ _ => pss_one (ps_ret pe_non)))
      (pss_cons (ps_if (pt_not (pt_val (C8.pe_c c_judge hr (by decide) (by rfl) (pa_cons (pe_callTy call_list_of (by rfl) T.lst (by decide +kernel) (pa_cons (pv 0) pa_nil)) (pa_cons (pv 1) (pa_cons (pv 3) pa_nil)))))) (pss_one (ps_ret pe_non)) pss_nil)
      (pss_one (ps_ret (pe_callB call_len_seq (by rfl) T.len (by decide +kernel) (pa_cons (pe_fld (pv 3) rfl) pa_nil)))))), ?_⟩
    refine ⟨_, rfl, t, rfl, by omega, fun ps rs hrd H2 c S2 hC => ?_, fun hn H2 d S2 => ?_⟩
    · have lps := read_len hrd
      refine ⟨_, rfl, _, _, rfl, .inl (SqL.of (S2 _ _ ha)), fun q nq => ⟨_, rfl, _, rfl, ?_⟩⟩
      have S2' := sameU (o := .lst vs) S2 nq
      refine ⟨q, c, pts, e, ps, rs, rfl, ⟨vs, upd_same, pairedSame IsPt.mono (sameT S2') hvs⟩, sp, se, hlen, hC.same (same_upd nq), by omega, fun H3 b S3 hb => ⟨_, rfl, ite2 (fun c1 => ?_) (fun c1 => ?_)⟩⟩
      · refine k H3 _ (S2'.trans S3) (.inl ⟨rfl, fun ps' rs' h' => ?_⟩)
        rw [hrd] at h'
        cases h'
        intro z
        rw [hb.mpr z] at c1
        cases c1
      · obtain ⟨dx, l1, l2, hc, ⟨pv, hP, hpv⟩, hR⟩ := (hC.same (same_upd (o := .lst vs) nq)).same S3
        refine ⟨_, rfl, _, _, _, _, _, rfl, hc, JC.cl, JC.pieces, rfl, _, _, rfl, .inl (SqL.of hP), ?_⟩
        rw [hpv.length]
        exact k H3 _ (S2'.trans S3) (.inr ⟨ps, rs, hrd, hb.mp (by simpa using c1), rfl⟩)
    · refine ⟨true, IP.te, fun _ a0 _ => ?_, fun q => Bool.noConfusion q⟩
      exact k H2 _ S2 (.inl ⟨rfl, fun ps rs h' => by
        rw [hn] at h'
        cases h'⟩)
end
end KW
namespace KW
open PySem PySem.Spec PyProof.Rows L2 KG KT
theorem pick {xs : List V} {s : Int} (h0 : 0 ≤ s) (h1 : s < (xs.length : Int)) : ∃ v, atI xs s = some v ∧ v ∈ xs := by
  have h : s.toNat < xs.length := by omega
  exact ⟨_, at_of (by omega) (List.getElem?_eq_getElem h), List.getElem_mem h⟩
theorem pick_int {ds : List Int} {s : Int} (h0 : 0 ≤ s) (h1 : s < (ds.length : Int)) : ∃ d, atI (ds.map V.int) s = some (.int d) ∧ d ∈ ds := by
  obtain ⟨v, h2, h3⟩ := pick (xs := ds.map V.int) h0 (by rwa [List.length_map])
  obtain ⟨d, hd, rfl⟩ := List.mem_map.mp h3
  exact ⟨d, h2, hd⟩
section
variable {P : Program} {w : World} {K : PySem.W.Frag} {mg : Str → Option Value} {base : Heap} {CF CC CI fI : Addr}
def spCell (K : PySem.W.Frag) : Sp := fun vs H Q _ => ∃ (s : Addr) (ns : List Int) (k : Int), vs = [.ref s, .int k] ∧ SqL K H s (ns.map V.int) ∧ 0 ≤ k ∧ ∀ c : Int, Q (.int c) H
abbrev s_l_cell : Stmt := topS 36
abbrev N_l_cell : List Str := ["_law_script", "_law_k"]
theorem sc_l_cell : FnScope N_l_cell ["_law_script", "_law_k"] (defScope s_l_cell) := ⟨rfl, rfl, rfl, by decide +kernel, rfl, by decide +kernel, by decide +kernel⟩
theorem bd_l_cell : BindsN "_law_cell" "_law_cell" s_l_cell ["_law_script", "_law_k"] := fun _ _ _ _ _ _ us hl => match us, hl with | [_, _], _ => rfl
theorem ok_l_cell (T : Txt mg) (D : DefAt K mg "_law_cell" s_l_cell) : Cal P w K mg base 1 "_law_cell" (spCell K) [] := by
  refine cal_of D sc_l_cell bd_l_cell (fun vs H Q E h => ?_) (fun f cdv A outer s H vs Q E hr h => ?_)
  · obtain ⟨a, ns, n, rfl, _⟩ := h
    rfl
  · obtain ⟨a, ns, n, rfl, ha, h0, k⟩ := h
    refine ⟨_, (pss_cons (ps_if (pt_cmpR op_lt (pv 1) (pe_callB call_len_seq (by rfl) T.len (by decide +kernel) (pa_cons (pv 0) pa_nil)) (nomark _)) (pss_one (ps_ret (pe_ix ix_list (pv 0) (pv 1) (fun _ _ => rfl)))) pss_nil)
      (pss_one (ps_ret pe_int))), ?_⟩
    refine ⟨_, rfl, _, rfl, _, _, rfl, .inl ha, _, _, rfl, rfl, _, rfl, ite2 (fun c1 => ?_) (fun c1 => ?_)⟩
    · have d1 : n < ((ns.map V.int).length : Int) := of_decide_eq_true c1
      obtain ⟨d, e1, _⟩ := pick_int (ds := ns) h0 (by rwa [List.length_map] at d1)
      exact ⟨_, rfl, _, rfl, _, _, _, _, rfl, rfl, ha, e1, k d⟩
    · exact k 0
def spDigits : Sp := fun vs H Q _ => ∃ c m n : Int, vs = [.int c, .int m, .int n] ∧ 0 < m ∧ m < 1073741824 ∧ 0 ≤ n ∧ n ≤ 1000 ∧ ∀ H' (l : Addr) (ds : List Int), Same H H' → H' l = some (.lst (ds.map V.int)) → (ds.length : Int) = n → (∀ d ∈ ds, 0 ≤ d ∧ d < m) → Q (.ref l) H'
abbrev s_l_digits : Stmt := topS 37
abbrev N_l_digits : List Str := ["_law_cell_here", "_law_many", "_law_count", "_law_digits_here", "_law_rest", "_law_k", "_law_mixed"]
theorem sc_l_digits : FnScope N_l_digits ["_law_cell_here", "_law_many", "_law_count"] (defScope s_l_digits) := ⟨rfl, rfl, rfl, by decide +kernel, rfl, by decide +kernel, by decide +kernel⟩
theorem bd_l_digits : BindsN "_law_digits" "_law_digits" s_l_digits ["_law_cell_here", "_law_many", "_law_count"] := fun _ _ _ _ _ _ us hl => match us, hl with | [_, _, _], _ => rfl
theorem ok_l_digits (T : Txt mg) (D : DefAt K mg "_law_digits" s_l_digits) : Cal P w K mg base 1 "_law_digits" spDigits [] := by
  refine cal_of D sc_l_digits bd_l_digits (fun vs H Q E h => ?_) (fun f cdv A outer s H vs Q E hr h => ?_)
  · obtain ⟨c, m, n, rfl, _⟩ := h
    rfl
  · obtain ⟨c, m, n, rfl, m0, m1, n0, n1, k⟩ := h
    refine ⟨_, (pss_cons (ps_set (i := 3) sc_l_digits.nd rfl (.inl rfl) (pe_lst pa_nil))
      (pss_cons (ps_set (i := 4) sc_l_digits.nd rfl (.inl rfl) (pv 0))
      (pss_cons (ps_for PassesOwn.never rfl (pi_range1 rfl T.range (pa_cons (pv 2) pa_nil)) (pg_name (i := 5) sc_l_digits.nd rfl (.inl rfl)) (pss_one (ps_if (pt_cmpR op_ge (pv 0) (pe_op op_pow pe_int pe_int) (nomark _)) (pss_cons (ps_expr (pe_bm PySem.F.plainAttrs_list PySem.F.slot_list_append PySem.F.type_list_append mt_append (pv 3) (pa_cons (pe_op op_mod (pe_callTy call_int1 (by rfl) T.int (by decide +kernel) (pa_cons (pv 4) pa_nil)) (pv 1)) pa_nil)))
          (pss_one (ps_set (i := 4) sc_l_digits.nd rfl (.inl rfl) (pe_op op_fdiv (pv 4) (pv 1))))) (pss_cons (ps_set (i := 6) sc_l_digits.nd rfl (.inl rfl) (pe_op op_mod (pe_callTy call_int1 (by rfl) T.int (by decide +kernel) (pa_cons (pe_op op_add (pe_op op_add (pe_op op_mul (pv 0) pe_int) (pe_op op_mul (pv 5) pe_int)) pe_int) pa_nil)) pe_int))
          (pss_cons (ps_set (i := 6) sc_l_digits.nd rfl (.inl rfl) (pe_op op_mod (pe_callTy call_int1 (by rfl) T.int (by decide +kernel) (pa_cons (pe_op op_add (pe_op op_add (pe_op op_mul (pv 6) (pv 6)) (pe_op op_mul pe_int (pv 6))) (pv 5)) pa_nil)) pe_int))
          (pss_one (ps_expr (pe_bm PySem.F.plainAttrs_list PySem.F.slot_list_append PySem.F.type_list_append mt_append (pv 3) (pa_cons (pe_op op_mod (pe_callTy call_int1 (by rfl) T.int (by decide +kernel) (pa_cons (pe_op op_fdiv (pv 6) pe_int) pa_nil)) (pv 1)) pa_nil)))))))))
      (pss_one (ps_ret (pv 3)))))), ?_⟩
    refine ⟨(by show 0 ≤ sizeLine; decide), fun L nL => ⟨_, rfl, _, rfl, _, rfl, (by omega), (by omega), for_range (lo := 0) (n := n.toNat) (fun i σ H' => Same H H' ∧ (∃ r y5 y6, σ = [some (.int c), some (.int m), some (.int n), some (.ref L), some (.int r), y5, y6]) ∧ ∃ ds : List Int, H' L = some (.lst (ds.map V.int)) ∧ ds.length = i ∧ ∀ d ∈ ds, 0 ≤ d ∧ d < m)
      ⟨same_upd nL, ⟨_, _, _, rfl⟩, [], upd_same, rfl, fun d hd => by cases hd⟩ ?_ ?_⟩⟩
    · rintro i σ H1 hi ⟨S1, ⟨r, y5, y6, rfl⟩, ds, hL, hl, hb⟩
      have step : ∀ x : Int, ∃ ds' : List Int, (upd H1 L (.lst (ds.map V.int ++ [.int (x % m)]))) L = some (.lst (ds'.map V.int)) ∧ ds'.length = i + 1 ∧ ∀ d ∈ ds', 0 ≤ d ∧ d < m := fun x => ⟨ds ++ [x % m], by rw [upd_same, List.map_append]; rfl, by rw [List.length_append, hl]; rfl, fun d hd => by
        rcases List.mem_append.mp hd with q | q
        · exact hb d q
        · rw [List.mem_singleton.mp q]
          exact ⟨Int.emod_nonneg _ (by omega), Int.emod_lt_of_pos _ m0⟩⟩
      have sz : (ds.map V.int).length < sizeLine := small_size (by rw [List.length_map]; omega)
      refine ⟨_, rfl, _, _, rfl, rfl, ⟨by decide, by decide, by decide⟩, _, _, rfl, rfl, _, rfl, ite2 (fun c1 => ?_) (fun c1 => ?_)⟩
      · refine ⟨_, rfl, .inl ⟨rfl, _, SqL.of hL⟩, _, rfl, .inl ⟨_, rfl, _, rfl, _, _, rfl, rfl, m0, L, _, _, rfl, rfl, hL, sz, ?_⟩⟩
        exact ⟨_, rfl, _, rfl, _, _, rfl, rfl, ⟨m0, m1⟩, same_at S1 nL, ⟨_, _, _, rfl⟩, step r⟩
      · refine ⟨_, rfl, _, _, rfl, rfl, .inr (by decide), _, rfl, _, _, rfl, rfl, .inr (by decide), _, _, rfl, rfl, _, _, rfl, rfl, .inl ⟨_, rfl, _, _, rfl, rfl, (by show (0 : Int) < 2147483647; decide), ?_⟩⟩
        have b1 := Int.emod_nonneg (c * 48271 + (0 + (i : Int)) * 69621 + 1013) (show (2147483647 : Int) ≠ 0 by decide)
        have b2 := Int.emod_lt_of_pos (c * 48271 + (0 + (i : Int)) * 69621 + 1013) (show (0 : Int) < 2147483647 by decide)
        have bb : -(2 ^ 64) < (c * 48271 + (0 + (i : Int)) * 69621 + 1013) % 2147483647 ∧ (c * 48271 + (0 + (i : Int)) * 69621 + 1013) % 2147483647 < 2 ^ 64 := by omega
        refine ⟨_, rfl, _, rfl, _, _, rfl, rfl, .inl bb, _, rfl, _, _, rfl, rfl, .inl (by decide), _, _, rfl, rfl, _, rfl, _, _, rfl, rfl, .inl ⟨_, rfl, _, _, rfl, rfl, (by show (0 : Int) < 2147483629; decide), ?_⟩⟩
        refine ⟨_, rfl, .inl ⟨rfl, _, SqL.of hL⟩, _, rfl, _, _, rfl, rfl, ⟨by decide, by decide⟩, .inl ⟨_, rfl, _, rfl, _, _, rfl, rfl, m0, L, _, _, rfl, rfl, hL, sz, ?_⟩⟩
        exact ⟨same_at S1 nL, ⟨_, _, _, rfl⟩, step _⟩
    · rintro σ H1 ⟨S1, ⟨r, y5, y6, rfl⟩, ds, hL, hl, hb⟩
      exact ⟨_, rfl, k H1 L ds S1 hL (by omega) hb⟩
theorem prod_bd {s g : Int} (h1 : -2 ≤ s) (h2 : s ≤ 2) (h3 : 0 ≤ g) (h4 : g ≤ 1000000000) : -2000000002 ≤ s * (1 + g) ∧ s * (1 + g) ≤ 2000000002 := by
  have : s = -2 ∨ s = -1 ∨ s = 0 ∨ s = 1 ∨ s = 2 := by omega
  rcases this with rfl | rfl | rfl | rfl | rfl <;> omega
def SmY (q : P2) : Prop := SmP q ∧ -100000000000 ≤ q.2 ∧ q.2 ≤ 100000000000
def spPoints (K : PySem.W.Frag) : Sp := fun vs H Q _ => ∃ (s : Addr) (ns : List Int) (p m : Int), vs = [.ref s, .int p, .int m] ∧ SqL K H s (ns.map V.int) ∧ 0 ≤ p ∧ 0 ≤ m ∧ m ≤ 20 ∧ ∀ H' (a : Addr) pts, Same H H' → LsOf IsPt H' a pts → Asc pts → (∀ q ∈ pts, SmY q) → (pts.length : Int) ≤ m → Q (.ref a) H'
abbrev s_l_points : Stmt := topS 38
abbrev N_l_points : List Str := ["_law_script", "_law_place", "_law_most", "_law_cell_here", "_law_size", "_law_style", "_law_gaps", "_law_rises", "_law_kinds", "_law_x", "_law_y", "_law_slope", "_law_points_here", "_law_k"]
theorem sc_l_points : FnScope N_l_points ["_law_script", "_law_place", "_law_most"] (defScope s_l_points) := ⟨rfl, rfl, rfl, by decide +kernel, rfl, by decide +kernel, by decide +kernel⟩
theorem bd_l_points : BindsN "_law_points" "_law_points" s_l_points ["_law_script", "_law_place", "_law_most"] := fun _ _ _ _ _ _ us hl => match us, hl with | [_, _, _], _ => rfl
theorem ok_l_points (T : Txt mg) (D : DefAt K mg "_law_points" s_l_points) (c_l_cell : Cal P w K mg base 1 "_law_cell" (spCell K) []) (c_l_digits : Cal P w K mg base 1 "_law_digits" spDigits []) : Cal P w K mg base 2 "_law_points" (spPoints K) [] := by
  refine cal_of D sc_l_points bd_l_points (fun vs H Q E h => ?_) (fun f cdv A outer s H vs Q E hr h => ?_)
  · obtain ⟨a, ns, p, m, rfl, _⟩ := h
    rfl
  · obtain ⟨sA, ns, p, m, rfl, hS, p0, m0, m1, k⟩ := h
    refine ⟨_, (pss_cons (ps_set (i := 3) sc_l_points.nd rfl (.inl rfl) (C8.pe_c c_l_cell hr (by decide) (by rfl) (pa_cons (pv 0) (pa_cons (pv 1) pa_nil))))
      (pss_cons (ps_set (i := 4) sc_l_points.nd rfl (.inl rfl) (pe_op op_mod (pe_callTy call_int1 (by rfl) T.int (by decide +kernel) (pa_cons (pv 3) pa_nil)) (pe_op op_add (pv 2) pe_int)))
      (pss_cons (ps_set (i := 5) sc_l_points.nd rfl (.inl rfl) (pe_op op_mod (pe_callTy call_int1 (by rfl) T.int (by decide +kernel) (pa_cons (pe_op op_fdiv (pv 3) (pe_op op_add (pv 2) pe_int)) pa_nil)) pe_int))
      (pss_cons (ps_set (i := 6) sc_l_points.nd rfl (.inl rfl) (C8.pe_c c_l_digits hr (by decide) (by rfl) (pa_cons (C8.pe_c c_l_cell hr (by decide) (by rfl) (pa_cons (pv 0) (pa_cons (pe_op op_add (pv 1) pe_int) pa_nil))) (pa_cons (pe_ix ix_list (pe_lst (pa_cons pe_int (pa_cons pe_int (pa_cons pe_int (pa_cons pe_int (pa_cons (pe_op op_pow pe_int pe_int) (pa_cons pe_int pa_nil))))))) (pv 5) (fun _ _ => rfl)) (pa_cons (pe_op op_add (pv 4) pe_int) pa_nil)))))
      (pss_cons (ps_set (i := 7) sc_l_points.nd rfl (.inl rfl) (C8.pe_c c_l_digits hr (by decide) (by rfl) (pa_cons (C8.pe_c c_l_cell hr (by decide) (by rfl) (pa_cons (pv 0) (pa_cons (pe_op op_add (pv 1) pe_int) pa_nil))) (pa_cons (pe_ix ix_list (pe_lst (pa_cons pe_int (pa_cons pe_int (pa_cons pe_int (pa_cons pe_int (pa_cons (pe_op op_pow pe_int pe_int) (pa_cons pe_int pa_nil))))))) (pv 5) (fun _ _ => rfl)) (pa_cons (pe_op op_add (pv 4) pe_int) pa_nil)))))
      (pss_cons (ps_set (i := 8) sc_l_points.nd rfl (.inl rfl) (C8.pe_c c_l_digits hr (by decide) (by rfl) (pa_cons (C8.pe_c c_l_cell hr (by decide) (by rfl) (pa_cons (pv 0) (pa_cons (pe_op op_add (pv 1) pe_int) pa_nil))) (pa_cons pe_int (pa_cons (pe_op op_add (pv 4) pe_int) pa_nil)))))
      (pss_cons (ps_set (i := 9) sc_l_points.nd rfl (.inl rfl) (pe_op op_sub (pe_callTy call_int1 (by rfl) T.int (by decide +kernel) (pa_cons (pe_ix ix_list (pv 6) (pv 4) (fun _ _ => rfl)) pa_nil)) pe_int))
      (pss_cons (ps_set (i := 10) sc_l_points.nd rfl (.inl rfl) (pe_op op_sub (pe_callTy call_int1 (by rfl) T.int (by decide +kernel) (pa_cons (pe_ix ix_list (pv 7) (pv 4) (fun _ _ => rfl)) pa_nil)) pe_int))
      (pss_cons (ps_set (i := 11) sc_l_points.nd rfl (.inl rfl) (pe_op op_sub (pe_op op_mod (pe_callTy call_int1 (by rfl) T.int (by decide +kernel) (pa_cons (pe_ix ix_list (pv 8) (pv 4) (fun _ _ => rfl)) pa_nil)) pe_int) pe_int))
      (pss_cons (ps_set (i := 12) sc_l_points.nd rfl (.inl rfl) (pe_lst pa_nil))
      (pss_cons (ps_for PassesOwn.never rfl (pi_range1 rfl T.range (pa_cons (pv 4) pa_nil)) (pg_name (i := 13) sc_l_points.nd rfl (.inl rfl)) (pss_cons (ps_set (i := 9) sc_l_points.nd rfl (.inl rfl) (pe_op op_add (pe_op op_add (pv 9) pe_int) (pe_ix ix_list (pv 6) (pv 13) (fun _ _ => rfl))))
        (pss_cons (ps_set (i := 10) sc_l_points.nd rfl (.inl rfl) (pe_op op_add (pe_op op_add (pv 10) (pe_op op_mul (pv 11) (pe_op op_add pe_int (pe_ix ix_list (pv 6) (pv 13) (fun _ _ => rfl))))) (pe_ix ix_list (pe_lst (pa_cons pe_int (pa_cons pe_int (pa_cons pe_int (pa_cons pe_int (pa_cons pe_int (pa_cons pe_int (pa_cons (pe_op op_sub pe_int pe_int) (pa_cons pe_int (pa_cons (pe_op op_sub pe_int pe_int) (pa_cons (pe_ix ix_list (pv 7) (pv 13) (fun _ _ => rfl)) (pa_cons (pe_op op_sub pe_int (pe_ix ix_list (pv 7) (pv 13) (fun _ _ => rfl))) (pa_cons pe_int pa_nil))))))))))))) (pe_callTy call_int1 (by rfl) T.int (by decide +kernel) (pa_cons (pe_ix ix_list (pv 8) (pv 13) (fun _ _ => rfl)) pa_nil)) (fun _ _ => rfl))))
        (pss_one (ps_expr (pe_bm PySem.F.plainAttrs_list PySem.F.slot_list_append PySem.F.type_list_append mt_append (pv 12) (pa_cons (pe_tup (pa_cons (pv 9) (pa_cons (pv 10) pa_nil))) pa_nil)))))))
      (pss_one (ps_ret (pv 12)))))))))))))), ?_⟩
    refine ⟨_, rfl, _, rfl, sA, ns, _, rfl, hS, p0, fun c => ⟨_, rfl, .inl ⟨_, rfl, _, rfl, _, _, rfl, rfl, _, _, rfl, rfl, (by omega), ?_⟩⟩⟩
    have z0 := Int.emod_nonneg c (show (m + 1) ≠ 0 by omega)
    have z1 := Int.emod_lt_of_pos c (show 0 < m + 1 by omega)
    refine ⟨_, rfl, _, rfl, _, _, rfl, rfl, _, _, rfl, rfl, ⟨by omega, by omega⟩, .inl ⟨_, rfl, _, _, rfl, rfl, (by show (0 : Int) < 6; decide), ?_⟩⟩
    have t0 := Int.emod_nonneg (c / (m + 1)) (show (6 : Int) ≠ 0 by decide)
    have t1 := Int.emod_lt_of_pos (c / (m + 1)) (show (0 : Int) < 6 by decide)
    obtain ⟨v1, e1, d1⟩ := pick (xs := [V.int 1, V.int 3, V.int 9, V.int 3, V.int ((10 : Int) ^ (9 : Int).toNat), V.int 2]) t0 t1
    obtain ⟨v2, e2, d2⟩ := pick (xs := [V.int 2, V.int 7, V.int 4, V.int 30, V.int ((10 : Int) ^ (9 : Int).toNat), V.int 5]) t0 t1
    have q1 : ∃ g : Int, v1 = .int g ∧ 0 < g ∧ g ≤ 1000000000 := by
      simp only [List.mem_cons, List.not_mem_nil, or_false] at d1
      rcases d1 with rfl | rfl | rfl | rfl | rfl | rfl <;> exact ⟨_, rfl, by decide, by decide⟩
    have q2 : ∃ g : Int, v2 = .int g ∧ 0 < g ∧ g ≤ 1000000000 := by
      simp only [List.mem_cons, List.not_mem_nil, or_false] at d2
      rcases d2 with rfl | rfl | rfl | rfl | rfl | rfl <;> exact ⟨_, rfl, by decide, by decide⟩
    obtain ⟨m1', rfl, g1, g2⟩ := q1
    obtain ⟨m2', rfl, g3, g4⟩ := q2
    refine ⟨_, rfl, _, rfl, _, _, rfl, rfl, sA, ns, _, rfl, hS, by omega, fun c1 => ⟨_, _, rfl, rfl, ⟨by decide, by decide, by decide⟩, (by show 6 ≤ sizeLine; decide), fun L1 nL1 => ⟨_, rfl, _, _, _, _, rfl, rfl, SqL.of upd_same, e1, _, rfl, _, _, rfl, rfl, c1, m1', _, rfl, g1, by omega, by omega, by omega, fun H1 lG ds S1 hG lenG bG => ?_⟩⟩⟩
    have S1 := (same_upd nL1).trans S1
    refine ⟨_, rfl, _, rfl, _, _, rfl, rfl, sA, ns, _, rfl, S1.seq hS, by omega, fun c2 => ⟨_, _, rfl, rfl, ⟨by decide, by decide, by decide⟩, (by show 6 ≤ sizeLine; decide), fun L2 nL2 => ⟨_, rfl, _, _, _, _, rfl, rfl, SqL.of upd_same, e2, _, rfl, _, _, rfl, rfl, c2, m2', _, rfl, g3, by omega, by omega, by omega, fun H2 lR rs S2 hR lenR bR => ?_⟩⟩⟩
    have S2 := (same_upd nL2).trans S2
    refine ⟨_, rfl, _, rfl, _, _, rfl, rfl, sA, ns, _, rfl, S2.seq (S1.seq hS), by omega, fun c3 => ⟨_, rfl, _, _, rfl, rfl, c3, 12, _, rfl, by decide, by decide, by omega, by omega, fun H3 lK ks S3 hK lenK bK => ?_⟩⟩
    have hG3 := S3 _ _ (S2 _ _ hG)
    have hR3 := S3 _ _ hR
    obtain ⟨x0, ex0, mx0⟩ := pick_int (ds := ds) z0 (by omega)
    obtain ⟨y0, ey0, my0⟩ := pick_int (ds := rs) z0 (by omega)
    obtain ⟨w0, ew0, mw0⟩ := pick_int (ds := ks) z0 (by omega)
    refine ⟨_, rfl, _, rfl, _, _, _, _, rfl, rfl, SqL.of hG3, ex0, .inl ⟨_, rfl, _, _, rfl, rfl, _, rfl, _, rfl, _, _, _, _, rfl, rfl, SqL.of hR3, ey0, .inl ⟨_, rfl, _, _, rfl, rfl, _, rfl, _, rfl, _, _, _, _, rfl, rfl, SqL.of hK, ew0, .inl ⟨_, rfl, _, _, rfl, rfl, (by show (0 : Int) < 5; decide), _, _, rfl, rfl, (by show 0 ≤ sizeLine; decide), fun A nA => ?_⟩⟩⟩⟩
    have bx0 := bG _ mx0
    have by0 := bR _ my0
    have bw0 := Int.emod_nonneg w0 (show (5 : Int) ≠ 0 by decide)
    have bw1 := Int.emod_lt_of_pos w0 (show (0 : Int) < 5 by decide)
    have S0 := (S1.trans S2).trans S3
    refine ⟨_, rfl, _, rfl, (by omega), (by omega), for_range (lo := 0) (n := (c % (m + 1)).toNat) (fun i σ H' => Same H3 H' ∧ ∃ x y u13 pts, σ = [some (.ref sA), some (.int p), some (.int m), some (.int c), some (.int (c % (m + 1))), some (.int (c / (m + 1) % 6)), some (.ref lG), some (.ref lR), some (.ref lK), some (.int x), some (.int y), some (.int (w0 % 5 - 2)), some (.ref A), u13] ∧
      LsOf IsPt H' A pts ∧ Asc pts ∧ (∀ q ∈ pts, SmY q) ∧ (∀ q ∈ pts, q.1 ≤ x) ∧ pts.length = i ∧ -4 ≤ x ∧ x ≤ 1000000000 + (i : Int) * 1000000001 ∧ -(1000000003 + (i : Int) * 3000000002) ≤ y ∧ y ≤ 1000000003 + (i : Int) * 3000000002)
      ⟨same_upd nA, _, _, _, [], rfl, ⟨[], upd_same, .nil⟩, .nil, fun q hq => (by cases hq), fun q hq => (by cases hq), rfl, by omega, by omega, by omega, by omega⟩ ?_ ?_⟩
    · rintro i σ H4 hi ⟨S4, x, y, u13, pts, rfl, ⟨vs, hA, hvs⟩, asc, sm, le, len, x1, x2, y1, y2⟩
      have hi20 : (i : Int) < 20 := by omega
      obtain ⟨g, eg, mg'⟩ := pick_int (ds := ds) (s := 0 + (i : Int)) (by omega) (by omega)
      obtain ⟨r, er, mr⟩ := pick_int (ds := rs) (s := 0 + (i : Int)) (by omega) (by omega)
      obtain ⟨kd, ek, mk⟩ := pick_int (ds := ks) (s := 0 + (i : Int)) (by omega) (by omega)
      have bg := bG _ mg'
      have br := bR _ mr
      have bk := bK _ mk
      have hG4 := S4 _ _ hG3
      have hR4 := S4 _ _ hR3
      have hK4 := S4 _ _ hK
      obtain ⟨dv, ed, md⟩ := pick (xs := [V.int 0, V.int 0, V.int 0, V.int 0, V.int 0, V.int 1, V.int (0 - 1), V.int 2, V.int (0 - 3), V.int r, V.int (0 - r), V.int 0]) bk.1 bk.2
      have qd : ∃ d : Int, dv = .int d ∧ -1000000000 ≤ d ∧ d ≤ 1000000000 := by
        simp only [List.mem_cons, List.not_mem_nil, or_false] at md
        rcases md with rfl | rfl | rfl | rfl | rfl | rfl | rfl | rfl | rfl | rfl | rfl | rfl <;> exact ⟨_, rfl, by omega, by omega⟩
      obtain ⟨d, rfl, d0, d1⟩ := qd
      refine ⟨_, rfl, _, _, rfl, rfl, _, rfl, _, rfl, _, _, _, _, rfl, rfl, SqL.of hG4, eg, _, _, rfl, rfl, _, rfl, _, rfl, _, rfl, _, rfl, _, _, _, _, rfl, rfl, SqL.of hG4, eg, _, _, rfl, rfl, _, _, rfl, rfl, .inl ⟨by omega, by omega⟩, _, _, rfl, rfl, _, _, rfl, rfl, _, _, rfl, rfl, _, rfl, _, rfl, _, _, _, _, rfl, rfl, SqL.of hR4, er, _, rfl, _, rfl, _, _, _, _, rfl, rfl, SqL.of hR4, er, _, _, rfl, rfl, (by show 12 ≤ sizeLine; decide), fun L nL => ?_⟩
      have S5 := S4.trans (same_upd (o := .lst [V.int 0, V.int 0, V.int 0, V.int 0, V.int 0, V.int 1, V.int (0 - 1), V.int 2, V.int (0 - 3), V.int r, V.int (0 - r), V.int 0]) nL)
      have hA5 := same_upd (o := .lst [V.int 0, V.int 0, V.int 0, V.int 0, V.int 0, V.int 1, V.int (0 - 1), V.int 2, V.int (0 - 3), V.int r, V.int (0 - r), V.int 0]) nL _ _ hA
      have hvs5 := pairedSame IsPt.mono (sameT (same_upd (o := .lst [V.int 0, V.int 0, V.int 0, V.int 0, V.int 0, V.int 1, V.int (0 - 1), V.int 2, V.int (0 - 3), V.int r, V.int (0 - r), V.int 0]) nL)) hvs
      have pb := prod_bd (s := w0 % 5 - 2) (g := g) (by omega) (by omega) (by omega) (by omega)
      have szA : vs.length < sizeLine := small_size (by rw [hvs.length]; omega)
      refine ⟨_, rfl, _, rfl, _, _, _, _, rfl, rfl, SqL.of (S5 _ _ hK), ek, .inl ⟨_, rfl, _, _, _, _, rfl, rfl, SqL.of upd_same, ed, _, _, rfl, rfl, _, rfl, .inl ⟨rfl, _, SqL.of hA5⟩, _, rfl, _, rfl, (by show 2 ≤ sizeLine; decide), fun t nt => ⟨A, vs, .ref t, rfl, rfl, same_upd nt _ _ hA5, szA, ?_⟩⟩⟩
      have S6 := S5.trans (same_upd (o := .tup [.int (x + 1 + g), .int (y + (w0 % 5 - 2) * (1 + g) + d)]) nt)
      refine ⟨same_at S6 nA, _, _, _, pts ++ [(x + 1 + g, y + (w0 % 5 - 2) * (1 + g) + d)], rfl, ⟨vs ++ [.ref t], upd_same, ?_⟩, asc_snoc.mpr ⟨asc, fun q hq => ?_⟩, fun q hq => ?_, fun q hq => ?_, by rw [List.length_append, len]; rfl, by omega, by omega, by omega, by omega⟩
      · have t3 : ∀ b xs, (upd (upd H4 L (.lst [V.int 0, V.int 0, V.int 0, V.int 0, V.int 0, V.int 1, V.int (0 - 1), V.int 2, V.int (0 - 3), V.int r, V.int (0 - r), V.int 0])) t (.tup [.int (x + 1 + g), .int (y + (w0 % 5 - 2) * (1 + g) + d)])) b = some (.tup xs) →
            (upd (upd (upd H4 L (.lst [V.int 0, V.int 0, V.int 0, V.int 0, V.int 0, V.int 1, V.int (0 - 1), V.int 2, V.int (0 - 3), V.int r, V.int (0 - r), V.int 0])) t (.tup [.int (x + 1 + g), .int (y + (w0 % 5 - 2) * (1 + g) + d)])) A (.lst (vs ++ [.ref t]))) b = some (.tup xs) := fun b xs q => by
          rw [upd_ne (fun z => by
            rw [z, same_upd nt _ _ hA5] at q
            cases q)]
          exact q
        exact paired_app (pairedSame IsPt.mono (fun b xs q => t3 b xs (same_upd nt _ _ q)) hvs5) (.cons ⟨t, rfl, t3 _ _ upd_same⟩ .nil)
      · have := le q hq
        show q.1 < x + 1 + g
        omega
      · rcases List.mem_append.mp hq with h | h
        · exact sm q h
        · rw [List.mem_singleton.mp h]
          refine ⟨⟨⟨?_, ?_⟩, ⟨?_, ?_⟩⟩, (by show -100000000000 ≤ y + (w0 % 5 - 2) * (1 + g) + d; omega), (by show y + (w0 % 5 - 2) * (1 + g) + d ≤ 100000000000; omega)⟩
          · show -1099511627776 ≤ x + 1 + g
            omega
          · show x + 1 + g ≤ 1099511627776
            omega
          · show -1099511627776 ≤ y + (w0 % 5 - 2) * (1 + g) + d
            omega
          · show y + (w0 % 5 - 2) * (1 + g) + d ≤ 1099511627776
            omega
      · rcases List.mem_append.mp hq with h | h
        · have := le q h
          omega
        · rw [List.mem_singleton.mp h]
          exact Int.le_refl _
    · rintro σ H4 ⟨S4, x, y, u13, pts, rfl, hA, asc, sm, le, len, _⟩
      exact ⟨_, rfl, k H4 A pts (S0.trans S4) hA asc sm (by omega)⟩
end
end KW
namespace KW
open PySem PySem.Spec PyProof.Rows L2 KG KT
section
variable {P : Program} {w : World} {K : PySem.W.Frag} {mg : Str → Option Value} {base : Heap} {CF CC CI fI : Addr}
def spError (K : PySem.W.Frag) : Sp := fun vs H Q _ => ∃ (s : Addr) (ns : List Int) (p : Int) (a : Addr) (pts : List P2), vs = [.ref s, .int p, .ref a] ∧ SqL K H s (ns.map V.int) ∧ 0 ≤ p ∧ LsOf IsPt H a pts ∧ (∀ q ∈ pts, SmY q) ∧ pts.length ≤ 100 ∧ ∀ H' e, Same H H' → 0 ≤ e → Sm e → Q (.int e) H'
abbrev s_l_error : Stmt := topS 39
abbrev N_l_error : List Str := ["_law_script", "_law_place", "_law_points_here", "_law_cell_here", "_law_choice", "_law_high", "_law_point"]
theorem sc_l_error : FnScope N_l_error ["_law_script", "_law_place", "_law_points_here"] (defScope s_l_error) := ⟨rfl, rfl, rfl, by decide +kernel, rfl, by decide +kernel, by decide +kernel⟩
theorem bd_l_error : BindsN "_law_error" "_law_error" s_l_error ["_law_script", "_law_place", "_law_points_here"] := fun _ _ _ _ _ _ us hl => match us, hl with | [_, _, _], _ => rfl
theorem ok_l_error (T : Txt mg) (D : DefAt K mg "_law_error" s_l_error) (c_l_cell : Cal P w K mg base 1 "_law_cell" (spCell K) []) : Cal P w K mg base 2 "_law_error" (spError K) [] := by
  refine cal_of D sc_l_error bd_l_error (fun vs H Q E h => ?_) (fun f cdv A outer s H vs Q E hr h => ?_)
  · obtain ⟨a, ns, p, m, pts, rfl, _⟩ := h
    rfl
  · obtain ⟨sA, ns, p, a, pts, rfl, hS, p0, ⟨vs, hA, hvs⟩, sm, hlen, k⟩ := h
    have hL : vs.length = pts.length := hvs.length
    refine ⟨_, (pss_cons (ps_set (i := 3) sc_l_error.nd rfl (.inl rfl) (C8.pe_c c_l_cell hr (by decide) (by rfl) (pa_cons (pv 0) (pa_cons (pv 1) pa_nil))))
      (pss_cons (ps_set (i := 4) sc_l_error.nd rfl (.inl rfl) (pe_op op_mod (pe_callTy call_int1 (by rfl) T.int (by decide +kernel) (pa_cons (pv 3) pa_nil)) pe_int))
      (pss_cons (ps_if (PW.pt (pw_and (pt_cmpR op_eq (pv 4) pe_int (nomark _)) (pw_and1 (pt_cmpR op_gt (pe_callB call_len_seq (by rfl) T.len (by decide +kernel) (pa_cons (pv 2) pa_nil)) pe_int (nomark _))))) (pss_cons (ps_set (i := 5) sc_l_error.nd rfl (.inl rfl) (pe_op op_sub (pe_callB (cr_max rfl) (by rfl) T.max (by decide +kernel) (pa_cons (pe_lc (own := [("_law_point", 6)]) (g := (gName 6)) (tt := tYes) rfl sc_l_error.nd (pi_list (pv 2)) (blkOk_by (N := N_l_error) (own := [("_law_point", 6)]) (sc := defScope s_l_error) (by decide +kernel)) (fun _ _ _ _ _ => by exact (pg_name (i := 6) sc_l_error.nd rfl (.inl rfl))) (fun _ _ _ _ _ => pts_nil) (fun _ _ _ _ _ => by exact (pe_ix (ixt (K := K) rfl) (pv 6) pe_int (fun _ _ => rfl)))) pa_nil)) (pe_callB (cr_min rfl) (by rfl) T.min (by decide +kernel) (pa_cons (pe_lc (own := [("_law_point", 6)]) (g := (gName 6)) (tt := tYes) rfl sc_l_error.nd (pi_list (pv 2)) (blkOk_by (N := N_l_error) (own := [("_law_point", 6)]) (sc := defScope s_l_error) (by decide +kernel)) (fun _ _ _ _ _ => by exact (pg_name (i := 6) sc_l_error.nd rfl (.inl rfl))) (fun _ _ _ _ _ => pts_nil) (fun _ _ _ _ _ => by exact (pe_ix (ixt (K := K) rfl) (pv 6) pe_int (fun _ _ => rfl)))) pa_nil))))
        (pss_one (ps_ret (pe_op op_mod (pe_callTy call_int1 (by rfl) T.int (by decide +kernel) (pa_cons (pe_op op_fdiv (pv 3) pe_int) pa_nil)) (pe_op op_add (pe_op op_fdiv (pv 5) pe_int) pe_int))))) pss_nil)
      (pss_one (ps_ret (pe_ix ix_list (pe_lst (pa_cons pe_int (pa_cons pe_int (pa_cons pe_int (pa_cons (pe_op op_mod (pe_callTy call_int1 (by rfl) T.int (by decide +kernel) (pa_cons (pe_op op_fdiv (pv 3) pe_int) pa_nil)) pe_int) pa_nil))))) (pe_op op_mod (pv 4) pe_int) (fun _ _ => rfl))))))), ?_⟩
    refine ⟨_, rfl, _, rfl, sA, ns, _, rfl, hS, p0, fun c => ⟨_, rfl, .inl ⟨_, rfl, _, _, rfl, rfl, (by show (0 : Int) < 5; decide), ?_⟩⟩⟩
    have i0 := Int.emod_nonneg c (show (5 : Int) ≠ 0 by decide)
    have i1 := Int.emod_lt_of_pos c (show (0 : Int) < 5 by decide)
    have j0 := Int.emod_nonneg (c / 5) (show (6 : Int) ≠ 0 by decide)
    have j1 := Int.emod_lt_of_pos (c / 5) (show (0 : Int) < 6 by decide)
    obtain ⟨v, ev, dv⟩ := pick (xs := [V.int 0, V.int 1, V.int 2, V.int (c / 5 % 6)]) (s := c % 5 % 4) (by omega) (by show _ < (4 : Int); omega)
    have qv : ∃ g : Int, v = .int g ∧ 0 ≤ g ∧ g ≤ 6 := by
      simp only [List.mem_cons, List.not_mem_nil, or_false] at dv
      rcases dv with rfl | rfl | rfl | rfl <;> exact ⟨_, rfl, by omega, by omega⟩
    obtain ⟨g, rfl, g0, g1⟩ := qv
    refine ⟨_, rfl, rfl, _, rfl, ite2 (fun c1 => ⟨_, rfl, _, _, rfl, .inl (SqL.of hA), _, _, rfl, rfl, _, rfl, ite2 (fun c2 => ?_) (fun c2 => ?_)⟩) (fun c1 => ?_)⟩
    · have d2 : 1 < pts.length := by
        have := of_decide_eq_true c2
        omega
      have mapR : ∀ {H1 : Hp}, Same H H1 → ∀ (i : Nat) x y H' , vs[i]? = some x → (pts.map fun q => V.int q.2)[i]? = some y → Same H1 H' → ∃ t z u, x = .ref t ∧ H' t = some (.tup [z, y]) := fun S1 i x y H' hx hy S => by
        obtain ⟨q, hq, t, rfl, ht⟩ := paired_get hvs hx
        rw [List.getElem?_map, hq] at hy
        cases hy
        exact ⟨t, _, 0, rfl, S _ _ (S1 _ _ ht)⟩
      have szA : vs.length < sizeLine := small_size (by omega)
      have eM : (pts.map fun q => V.int q.2) = (pts.map (·.2)).map V.int := by
        rw [List.map_map]
        rfl
      refine ⟨_, rfl, a, rfl, ⟨_, SqL.of hA⟩, fun D1 nD1 => lc_mapL (pts.map fun q => V.int q.2) nD1 hA (by rw [List.length_map, hL]) szA (fun i x y H' Qk N0 hx hy S q => ?_) (fun H1 S1 hD1 => ⟨D1, pts.map (·.2), rfl, SqL.of (by rw [hD1, eM]), (by rw [List.length_map]; omega), fun hi hi1 hi2 => ?_⟩)⟩
      · obtain ⟨t, z, _, rfl, ht⟩ := mapR (Same.refl H) i x y H' hx hy S
        exact ⟨rfl, _, rfl, _, _, _, _, rfl, rfl, SqT.of ht, atI_nat (j := 1) rfl, q _ (Same.refl _)⟩
      refine ⟨_, rfl, a, rfl, ⟨_, SqL.of (S1 _ _ hA)⟩, fun D2 nD2 => lc_mapL (pts.map fun q => V.int q.2) nD2 (S1 _ _ hA) (by rw [List.length_map, hL]) szA (fun i x y H' Qk N0 hx hy S q => ?_) (fun H2 S2 hD2 => ⟨D2, pts.map (·.2), rfl, SqL.of (by rw [hD2, eM]), (by rw [List.length_map]; omega), fun lo lo1 lo2 => ?_⟩)⟩
      · obtain ⟨t, z, _, rfl, ht⟩ := mapR S1 i x y H' hx hy S
        exact ⟨rfl, _, rfl, _, _, _, _, rfl, rfl, SqT.of ht, atI_nat (j := 1) rfl, q _ (Same.refl _)⟩
      have h1 := hi2 _ lo1
      obtain ⟨p1, m1, e1⟩ := List.mem_map.mp hi1
      obtain ⟨p2, m2, e2⟩ := List.mem_map.mp lo1
      have b1 := (sm _ m1).2
      have b2 := (sm _ m2).2
      rw [e1] at b1
      rw [e2] at b2
      have n0 := Int.emod_nonneg (c / 5) (show (hi - lo) / 2 + 2 ≠ 0 by omega)
      have n1 := Int.emod_lt_of_pos (c / 5) (show 0 < (hi - lo) / 2 + 2 by omega)
      refine ⟨_, _, rfl, rfl, _, rfl, _, _, rfl, rfl, ⟨by decide, by decide⟩, .inl ⟨_, rfl, _, rfl, _, _, rfl, rfl, ⟨by decide, by decide⟩, _, _, rfl, rfl, _, _, rfl, rfl, ?_, ?_⟩⟩
      · show 0 < (hi - lo) / 2 + 2
        omega
      · exact k _ _ (S1.trans S2) n0 ⟨by omega, by omega⟩
    · refine ⟨_, rfl, _, _, rfl, rfl, ⟨by decide, by decide⟩, .inl ⟨_, rfl, _, _, rfl, rfl, (by show (0 : Int) < 6; decide), (by show 4 ≤ sizeLine; decide), fun L nL => ?_⟩⟩
      exact ⟨_, rfl, _, _, rfl, rfl, (by show (0 : Int) < 4; decide), _, _, _, _, rfl, rfl, SqL.of upd_same, ev, k _ _ (same_upd nL) g0 ⟨by omega, by omega⟩⟩
    · refine ⟨_, rfl, _, _, rfl, rfl, ⟨by decide, by decide⟩, .inl ⟨_, rfl, _, _, rfl, rfl, (by show (0 : Int) < 6; decide), (by show 4 ≤ sizeLine; decide), fun L nL => ?_⟩⟩
      exact ⟨_, rfl, _, _, rfl, rfl, (by show (0 : Int) < 4; decide), _, _, _, _, rfl, rfl, SqL.of upd_same, ev, k _ _ (same_upd nL) g0 ⟨by omega, by omega⟩⟩
end
end KW
namespace KW
open PySem PySem.Spec PyProof.Rows L2 KG KT
def vns (l : List Nat) : List V := l.map fun n => V.int (n : Nat)
theorem vns_len (l : List Nat) : (vns l).length = l.length := List.length_map _
theorem vns_get {l : List Nat} {i n : Nat} (h : l[i]? = some n) : (vns l)[i]? = some (.int (n : Nat)) := by
  unfold vns
  rw [List.getElem?_map, h]
  rfl
theorem vns_app (a : List Nat) (n : Nat) : vns (a ++ [n]) = vns a ++ [V.int (n : Nat)] := by
  unfold vns
  rw [List.map_append]
  rfl
section
variable {P : Program} {w : World} {K : PySem.W.Frag} {mg : Str → Option Value} {base : Heap} {CF CC CI fI : Addr}
def spStarts : Sp := fun vs H Q _ => ∃ (a : Addr) (pts : List P2) (e : Int), vs = [.ref a, .int e] ∧ LsOf IsPt H a pts ∧ (∀ q ∈ pts, SmP q) ∧ Sm e ∧ pts.length ≤ 900 ∧ ∀ H' l st, Same H H' → H' l = some (.lst (vns st)) → Greedy pts e pts.length st → Q (.ref l) H'
abbrev s_l_starts : Stmt := topS 42
abbrev N_l_starts : List Str := ["_law_points_here", "_law_error_here", "_law_starts_here", "_law_k"]
theorem sc_l_starts : FnScope N_l_starts ["_law_points_here", "_law_error_here"] (defScope s_l_starts) := ⟨rfl, rfl, rfl, by decide +kernel, rfl, by decide +kernel, by decide +kernel⟩
theorem bd_l_starts : BindsN "_law_starts" "_law_starts" s_l_starts ["_law_points_here", "_law_error_here"] := fun _ _ _ _ _ _ us hl => match us, hl with | [_, _], _ => rfl
theorem ok_l_starts (T : Txt mg) (D : DefAt K mg "_law_starts" s_l_starts) (c_l_fits : Cal P w K mg base 2 "_law_fits" spFits []) : Cal P w K mg base 3 "_law_starts" spStarts [] := by
  refine cal_of D sc_l_starts bd_l_starts (fun vs H Q E h => ?_) (fun f cdv A outer s H vs Q E hr h => ?_)
  · obtain ⟨a, pts, e, rfl, _⟩ := h
    rfl
  · obtain ⟨a, pts, e, rfl, ⟨vs, hA, hvs⟩, sm, se, hlen, k⟩ := h
    have hL : vs.length = pts.length := hvs.length
    refine ⟨_, (pss_cons (ps_set (i := 2) sc_l_starts.nd rfl (.inl rfl) (pe_lst pa_nil))
      (pss_cons (ps_for PassesOwn.never rfl (pi_range1 rfl T.range (pa_cons (pe_callB call_len_seq (by rfl) T.len (by decide +kernel) (pa_cons (pv 0) pa_nil)) pa_nil)) (pg_name (i := 3) sc_l_starts.nd rfl (.inl rfl)) (pss_one (ps_if (PW.pt (pw_or (pt_cmpR op_eq (pe_callB call_len_seq (by rfl) T.len (by decide +kernel) (pa_cons (pv 2) pa_nil)) pe_int (nomark _)) (pw_or1 (pt_not (pt_val (C8.pe_c c_l_fits hr (by decide) (by rfl) (pa_cons (pe_slice sl_list (pv 0) (po_some (pe_ix ix_list (pv 2) (pe_op op_sub (pe_callB call_len_seq (by rfl) T.len (by decide +kernel) (pa_cons (pv 2) pa_nil)) pe_int) (fun _ _ => rfl))) (po_some (pe_op op_add (pv 3) pe_int))) (pa_cons (pv 1) pa_nil)))))))) (pss_one (ps_expr (pe_bm PySem.F.plainAttrs_list PySem.F.slot_list_append PySem.F.type_list_append mt_append (pv 2) (pa_cons (pv 3) pa_nil)))) pss_nil)))
      (pss_one (ps_ret (pv 2))))), ?_⟩
    refine ⟨(by show 0 ≤ sizeLine; decide), fun L nL => ⟨_, rfl, _, _, rfl, .inl (SqL.of (same_upd nL _ _ hA)), _, rfl, (by omega), (by omega), for_range (lo := 0) (n := (vs.length : Int).toNat) (fun i σ H' => Same H H' ∧ (∃ y, σ = [some (.ref a), some (.int e), some (.ref L), y]) ∧ ∃ st, H' L = some (.lst (vns st)) ∧ Greedy pts e i st ∧ st.length ≤ i)
      ⟨same_upd nL, ⟨_, rfl⟩, [], upd_same, greedy_zero, Nat.le_refl _⟩ ?_ ?_⟩⟩
    · rintro i σ H1 hi ⟨S1, ⟨y, rfl⟩, st, hL1, G, ls⟩
      have hi : i < pts.length := by omega
      refine ⟨_, rfl, _, _, rfl, .inl (SqL.of hL1), rfl, _, rfl, ite2 (fun c1 => ?_) (fun c1 => ?_)⟩
      · have z : st.length = 0 := by
          have := V.int.inj (of_decide_eq_true c1)
          rw [vns_len] at this
          omega
        have st0 : st = [] := List.length_eq_zero_iff.mp z
        subst st0
        have i0 : i = 0 := by
          rcases Nat.eq_zero_or_pos i with h | h
          · exact h
          · have := G.first h
            cases this
        subst i0
        exact ⟨_, rfl, .inl ⟨rfl, _, SqL.of hL1⟩, _, rfl, L, _, _, rfl, rfl, hL1, (by show 0 < sizeLine; decide), same_at S1 nL, ⟨_, rfl⟩, [0], upd_same, greedy_first, Nat.le_refl _⟩
      · have z : 0 < st.length := by
          rcases Nat.eq_zero_or_pos st.length with h | h
          · refine absurd (decide_eq_true ?_) c1
            rw [vns_len, h]
            rfl
          · exact h
        have i0 : 0 < i := by omega
        obtain ⟨b, hb⟩ : ∃ b, st[st.length - 1]? = some b := ⟨_, List.getElem?_eq_getElem (by omega)⟩
        have blt := G.lt _ _ hb
        refine ⟨_, rfl, _, rfl, _, rfl, _, _, rfl, .inl (SqL.of hL1), _, _, rfl, rfl, _, _, _, _, rfl, rfl, SqL.of hL1, at_of (j := st.length - 1) (by rw [vns_len]; omega) (vns_get hb), _, rfl, _, rfl, _, _, rfl, rfl, _, rfl, a, vs, rfl, SqL.of (S1 _ _ hA), fun sl nsl => ?_⟩
        have eC : cutV vs (some ((b : Nat) : Int)) (some (0 + (i : Int) + 1)) = (vs.drop b).take (i + 1 - b) := by
          rw [show (0 + (i : Int) + 1) = ((i + 1 : Nat) : Int) by omega, cut_nat (by omega) (by omega)]
        rw [eC]
        have S2 := sameU (o := .lst ((vs.drop b).take (i + 1 - b))) S1 nsl
        have hL2 := same_upd (o := .lst ((vs.drop b).take (i + 1 - b))) nsl _ _ hL1
        refine ⟨_, rfl, sl, (pts.drop b).take (i + 1 - b), e, rfl, ⟨_, upd_same, pairedSame IsPt.mono (sameT S2) (paired_take _ (paired_drop _ hvs))⟩, fun q hq => sm q (List.mem_of_mem_drop (List.mem_of_mem_take hq)), se, (by rw [List.length_take, List.length_drop]; omega), fun t ht => ⟨_, rfl, ite2 (fun c2 => ?_) (fun c2 => ?_)⟩⟩
        · have d2 : ¬ SegOK pts e b (i + 1) := fun z => by
            have := ht.mpr (seg_slice.mpr z)
            rw [this] at c2
            cases c2
          refine ⟨_, rfl, .inl ⟨rfl, _, SqL.of hL2⟩, _, rfl, L, _, _, rfl, rfl, hL2, small_size (by rw [vns_len]; omega), same_at S2 nL, ⟨_, rfl⟩, st ++ [i], ?_, greedy_new G i0 (fun a' ha' => by rw [hb] at ha'; cases ha'; exact d2), by rw [List.length_append]; simp; omega⟩
          rw [upd_same, vns_app, show (0 + (i : Int)) = ((i : Nat) : Int) by omega]
        · have d2 : SegOK pts e b (i + 1) := seg_slice.mp (ht.mp (by simpa using c2))
          exact ⟨S2, ⟨_, rfl⟩, st, hL2, greedy_keep G i0 (fun a' ha' => by rw [hb] at ha'; cases ha'; exact d2), by omega⟩
    · rintro σ H1 ⟨S1, ⟨y, rfl⟩, st, hL1, G, ls⟩
      rw [show (vs.length : Int).toNat = pts.length by omega] at G
      exact ⟨_, rfl, k H1 L st S1 hL1 G⟩
def spLeast : Sp := fun vs H Q _ => ∃ (a : Addr) (pts : List P2) (e : Int), vs = [.ref a, .int e] ∧ LsOf IsPt H a pts ∧ (∀ q ∈ pts, SmP q) ∧ Sm e ∧ pts.length ≤ 900 ∧ ∀ H' (m : Nat), Same H H' → IsLeast pts e pts.length m → Q (.int (m : Nat)) H'
abbrev s_l_least : Stmt := topS 43
abbrev N_l_least : List Str := ["_law_points_here", "_law_error_here", "_law_counts", "_law_end", "_law_best", "_law_start"]
theorem sc_l_least : FnScope N_l_least ["_law_points_here", "_law_error_here"] (defScope s_l_least) := ⟨rfl, rfl, rfl, by decide +kernel, rfl, by decide +kernel, by decide +kernel⟩
theorem bd_l_least : BindsN "_law_least" "_law_least" s_l_least ["_law_points_here", "_law_error_here"] := fun _ _ _ _ _ _ us hl => match us, hl with | [_, _], _ => rfl
theorem ok_l_least (T : Txt mg) (D : DefAt K mg "_law_least" s_l_least) (c_l_fits : Cal P w K mg base 2 "_law_fits" spFits []) : Cal P w K mg base 3 "_law_least" spLeast [] := by
  refine cal_of D sc_l_least bd_l_least (fun vs H Q E h => ?_) (fun f cdv A outer s H vs Q E hr h => ?_)
  · obtain ⟨a, pts, e, rfl, _⟩ := h
    rfl
  · obtain ⟨a, pts, e, rfl, ⟨vs, hA, hvs⟩, sm, se, hlen, k⟩ := h
    have hL : vs.length = pts.length := hvs.length
    refine ⟨_, (pss_cons (ps_set (i := 2) sc_l_least.nd rfl (.inl rfl) (pe_lst (pa_cons pe_int pa_nil)))
      (pss_cons (ps_for PassesOwn.never rfl (pi_range2 rfl T.range (pa_cons pe_int (pa_cons (pe_op op_add (pe_callB call_len_seq (by rfl) T.len (by decide +kernel) (pa_cons (pv 0) pa_nil)) pe_int) pa_nil))) (pg_name (i := 3) sc_l_least.nd rfl (.inl rfl)) (pss_cons (ps_set (i := 4) sc_l_least.nd rfl (.inl rfl) (pe_op op_add (pe_ix ix_list (pv 2) (pe_op op_sub (pv 3) pe_int) (fun _ _ => rfl)) pe_int))
        (pss_cons (ps_for PassesOwn.never rfl (pi_range1 rfl T.range (pa_cons (pv 3) pa_nil)) (pg_name (i := 5) sc_l_least.nd rfl (.inl rfl)) (pss_one (ps_if (PW.pt (pw_and (pt_cmpR op_lt (pe_op op_add (pe_ix ix_list (pv 2) (pv 5) (fun _ _ => rfl)) pe_int) (pv 4) (nomark _)) (pw_and1 (pt_val (C8.pe_c c_l_fits hr (by decide) (by rfl) (pa_cons (pe_slice sl_list (pv 0) (po_some (pv 5)) (po_some (pv 3))) (pa_cons (pv 1) pa_nil))))))) (pss_one (ps_set (i := 4) sc_l_least.nd rfl (.inl rfl) (pe_op op_add (pe_ix ix_list (pv 2) (pv 5) (fun _ _ => rfl)) pe_int))) pss_nil)))
        (pss_one (ps_expr (pe_bm PySem.F.plainAttrs_list PySem.F.slot_list_append PySem.F.type_list_append mt_append (pv 2) (pa_cons (pv 4) pa_nil)))))))
      (pss_one (ps_ret (pe_ix ix_list (pv 2) (pe_callB call_len_seq (by rfl) T.len (by decide +kernel) (pa_cons (pv 0) pa_nil)) (fun _ _ => rfl)))))), ?_⟩
    refine ⟨(by show 1 ≤ sizeLine; decide), fun L nL => ⟨_, rfl, _, _, rfl, .inl (SqL.of (same_upd nL _ _ hA)), _, _, rfl, rfl, _, _, rfl, (by omega), for_range (lo := 1) (n := ((vs.length : Int) + 1 - 1).toNat) (fun i σ H' => Same H H' ∧ (∃ y3 y4 y5, σ = [some (.ref a), some (.int e), some (.ref L), y3, y4, y5]) ∧ ∃ cs, H' L = some (.lst (vns cs)) ∧ cs.length = i + 1 ∧ ∀ s c, cs[s]? = some c → IsLeast pts e s c)
      ⟨same_upd nL, ⟨_, _, _, rfl⟩, [0], upd_same, rfl, fun s c hc => by
        obtain ⟨h1, h2⟩ := List.getElem?_eq_some_iff.mp hc
        have : s = 0 := by simp at h1; omega
        subst this
        cases hc
        exact least_zero⟩ ?_ ?_⟩⟩
    · rintro i σ H1 hi ⟨S1, ⟨y3, y4, y5, rfl⟩, cs, hL1, lc, hcs⟩
      have hi : i < pts.length := by omega
      obtain ⟨c0, hc0⟩ : ∃ c, cs[i]? = some c := ⟨_, List.getElem?_eq_getElem (by omega)⟩
      refine ⟨_, rfl, _, rfl, _, _, rfl, rfl, _, _, _, _, rfl, rfl, SqL.of hL1, at_of (j := i) (by omega) (vns_get hc0), _, _, rfl, rfl, _, rfl, _, rfl, (by omega), (by omega), for_range (lo := 0) (n := (1 + (i : Int)).toNat) (fun j σ H' => Same H H' ∧ H' L = some (.lst (vns cs)) ∧ ∃ (b : Nat) (y5 : Option V), σ = [some (.ref a), some (.int e), some (.ref L), some (.int (1 + (i : Int))), some (.int (b : Nat)), y5] ∧ Cov pts e (i + 1) b ∧ ∀ s c, s < j → cs[s]? = some c → SegOK pts e s (i + 1) → b ≤ c + 1)
        ⟨S1, hL1, c0 + 1, _, rfl, .step (hcs i c0 hc0).1 (by omega) seg_one, fun s c hs => by omega⟩ ?_ ?_⟩
      · rintro j σ H2 hj ⟨S2, hL2, b, y5, rfl, hb, hmin⟩
        have hj : j < i + 1 := by omega
        obtain ⟨c, hc⟩ : ∃ c, cs[j]? = some c := ⟨_, List.getElem?_eq_getElem (by omega)⟩
        refine ⟨_, rfl, _, rfl, _, _, _, _, rfl, rfl, SqL.of hL2, at_of (j := j) (by omega) (vns_get hc), _, _, rfl, rfl, _, rfl, _, _, rfl, rfl, _, rfl, ite2 (fun c1 => ?_) (fun c1 => ?_)⟩
        · have d1 : c + 1 < b := by
            have : ((c : Nat) : Int) + 1 < (b : Nat) := of_decide_eq_true c1
            omega
          refine ⟨_, rfl, _, rfl, _, rfl, _, rfl, _, rfl, a, vs, rfl, SqL.of (S2 _ _ hA), fun sl nsl => ?_⟩
          have eC : cutV vs (some (0 + (j : Int))) (some (1 + (i : Int))) = (vs.drop j).take (i + 1 - j) := by
            rw [show (0 + (j : Int)) = ((j : Nat) : Int) by omega, show (1 + (i : Int)) = ((i + 1 : Nat) : Int) by omega, cut_nat (by omega) (by omega)]
          rw [eC]
          have S3 := sameU (o := .lst ((vs.drop j).take (i + 1 - j))) S2 nsl
          have hL3 := same_upd (o := .lst ((vs.drop j).take (i + 1 - j))) nsl _ _ hL2
          refine ⟨_, rfl, sl, (pts.drop j).take (i + 1 - j), e, rfl, ⟨_, upd_same, pairedSame IsPt.mono (sameT S3) (paired_take _ (paired_drop _ hvs))⟩, fun q hq => sm q (List.mem_of_mem_drop (List.mem_of_mem_take hq)), se, (by rw [List.length_take, List.length_drop]; omega), fun t ht => ⟨_, rfl, ite2 (fun c2 => ?_) (fun c2 => ?_)⟩⟩
          · have d2 : SegOK pts e j (i + 1) := seg_slice.mp (ht.mp c2)
            refine ⟨_, rfl, _, rfl, _, _, _, _, rfl, rfl, SqL.of hL3, at_of (j := j) (by omega) (vns_get hc), _, _, rfl, rfl, S3, hL3, c + 1, _, rfl, .step (hcs j c hc).1 (by omega) d2, fun s c' hs hc' hs' => ?_⟩
            by_cases z : s = j
            · subst z
              rw [hc] at hc'
              cases hc'
              exact Nat.le_refl _
            · have := hmin s c' (by omega) hc' hs'
              omega
          · refine ⟨S3, hL3, b, _, rfl, hb, fun s c' hs hc' hs' => ?_⟩
            by_cases z : s = j
            · subst z
              exact absurd (ht.mpr (seg_slice.mpr hs')) c2
            · exact hmin s c' (by omega) hc' hs'
        · have d1 : b ≤ c + 1 := by
            have : ¬ ((c : Nat) : Int) + 1 < (b : Nat) := fun z => c1 (decide_eq_true z)
            omega
          refine ⟨S2, hL2, b, _, rfl, hb, fun s c' hs hc' hs' => ?_⟩
          by_cases z : s = j
          · subst z
            rw [hc] at hc'
            cases hc'
            exact d1
          · exact hmin s c' (by omega) hc' hs'
      · rintro σ H2 ⟨S2, hL2, b, y5, rfl, hb, hmin⟩
        refine ⟨_, rfl, .inl ⟨rfl, _, SqL.of hL2⟩, _, rfl, L, _, _, rfl, rfl, hL2, small_size (by rw [vns_len]; omega), same_at S2 nL, ⟨_, _, _, rfl⟩, cs ++ [b], by rw [upd_same, vns_app], by rw [List.length_append]; simp; omega, fun s c hc => ?_⟩
        rcases snoc_get hc with ⟨h1, h2⟩ | ⟨h1, h2⟩
        · exact hcs s c h2
        · subst h2
          rw [h1, lc]
          refine least_step (c := fun s => (cs[s]?).getD 0) (by omega) (fun s hs => ?_) hb (fun s hs h => ?_)
          · have g := List.getElem?_eq_getElem (show s < cs.length by omega)
            have := hcs s _ g
            rw [g]
            exact this
          · have g := List.getElem?_eq_getElem (show s < cs.length by omega)
            have := hmin s _ (by omega) g h
            rw [g]
            exact this
    · rintro σ H1 ⟨S1, ⟨y3, y4, y5, rfl⟩, cs, hL1, lc, hcs⟩
      obtain ⟨c, hc⟩ : ∃ c, cs[pts.length]? = some c := ⟨_, List.getElem?_eq_getElem (by omega)⟩
      exact ⟨_, rfl, _, rfl, _, _, rfl, .inl (SqL.of (S1 _ _ hA)), _, _, _, _, rfl, rfl, SqL.of hL1, at_of (j := pts.length) (by omega) (vns_get hc), k H1 c S1 (hcs _ _ hc)⟩
end
end KW
namespace KW
open PySem PySem.Spec PyProof.Rows L2 KG KT
section
variable {P : Program} {w : World} {K : PySem.W.Frag} {mg : Str → Option Value} {base : Heap} {CF CC CI fI : Addr}
def spReasonL : Sp := fun vs H Q _ => ∃ (a : Addr) (pts : List P2) (e : Int) (s t : Nat), vs = [.ref a, .int e, .int (s : Nat), .int (t : Nat)] ∧ LsOf IsPt H a pts ∧ (∀ q ∈ pts, SmP q) ∧ Sm e ∧ pts.length ≤ 900 ∧ s < t ∧ t < pts.length ∧ SegOK pts e s t ∧ ¬ SegOK pts e s (t + 1) ∧
  ∀ H' v (i j : Nat), Same H H' → IsTri H' v ((i : Nat), (j : Nat), (t : Nat)) → i < 900 → j < 900 → ReasonIs pts e ((i : Nat), (j : Nat), (t : Nat)) s t → Q v H'
abbrev s_l_reason : Stmt := topS 46
abbrev N_l_reason : List Str := ["_law_points_here", "_law_error_here", "_law_start", "_law_end", "_law_j", "_law_i"]
theorem sc_l_reason : FnScope N_l_reason ["_law_points_here", "_law_error_here", "_law_start", "_law_end"] (defScope s_l_reason) := ⟨rfl, rfl, rfl, by decide +kernel, rfl, by decide +kernel, by decide +kernel⟩
theorem bd_l_reason : BindsN "_law_reason" "_law_reason" s_l_reason ["_law_points_here", "_law_error_here", "_law_start", "_law_end"] := fun _ _ _ _ _ _ us hl => match us, hl with | [_, _, _, _], _ => rfl
theorem ok_l_reason (T : Txt mg) (D : DefAt K mg "_law_reason" s_l_reason) (c_l_three : Cal P w K mg base 1 "_law_three" spThree []) : Cal P w K mg base 2 "_law_reason" spReasonL [] := by
  refine cal_of D sc_l_reason bd_l_reason (fun vs H Q E h => ?_) (fun f cdv A outer s H vs Q E hr h => ?_)
  · obtain ⟨a, pts, e, s, t, rfl, _⟩ := h
    rfl
  · obtain ⟨a, pts, e, s, t, rfl, ⟨vs, hA, hvs⟩, sm, se, hlen, hst, htl, sOK, sNo, k⟩ := h
    have hL : vs.length = pts.length := hvs.length
    refine ⟨_, (pss_cons (ps_for PassesOwn.never rfl (pi_range2 rfl T.range (pa_cons (pe_op op_add (pv 2) pe_int) (pa_cons (pv 3) pa_nil))) (pg_name (i := 4) sc_l_reason.nd rfl (.inl rfl)) (pss_one (ps_for PassesOwn.never rfl (pi_range2 rfl T.range (pa_cons (pv 2) (pa_cons (pv 4) pa_nil))) (pg_name (i := 5) sc_l_reason.nd rfl (.inl rfl)) (pss_one (ps_if (pt_not (pt_val (C8.pe_c c_l_three hr (by decide) (by rfl) (pa_cons (pe_ix ix_list (pv 0) (pv 5) (fun _ _ => rfl)) (pa_cons (pe_ix ix_list (pv 0) (pv 4) (fun _ _ => rfl)) (pa_cons (pe_ix ix_list (pv 0) (pv 3) (fun _ _ => rfl)) (pa_cons (pv 1) pa_nil))))))) (pss_one (ps_ret (pe_tup (pa_cons (pv 5) (pa_cons (pv 4) (pa_cons (pv 3) pa_nil)))))) pss_nil)))))
      (pss_one (ps_ret (pe_tup (pa_cons pe_int (pa_cons pe_int (pa_cons pe_int pa_nil))))))), ?_⟩
    refine ⟨_, rfl, _, _, rfl, rfl, _, rfl, _, _, rfl, (by omega), for_range (lo := (s : Int) + 1) (n := ((t : Int) - ((s : Int) + 1)).toNat) (fun m σ H' => Same H H' ∧ (∃ y4 y5, σ = [some (.ref a), some (.int e), some (.int (s : Nat)), some (.int (t : Nat)), y4, y5]) ∧
      ∀ (i j : Nat) (p q r : P2), s ≤ i → i < j → j < s + 1 + m → pts[i]? = some p → pts[j]? = some q → pts[t]? = some r → three p q r e = true) ⟨Same.refl H, ⟨_, _, rfl⟩, fun i j p q r h1 h2 h3 => by omega⟩ ?_ ?_⟩
    · rintro m σ H1 hm ⟨S1, ⟨y4, y5, rfl⟩, h1⟩
      refine ⟨_, rfl, _, rfl, _, _, rfl, (by omega), for_range (lo := (s : Int)) (n := (((s : Int) + 1 + (m : Int)) - (s : Int)).toNat) (fun l σ H' => Same H H' ∧ (∃ y5, σ = [some (.ref a), some (.int e), some (.int (s : Nat)), some (.int (t : Nat)), some (.int ((s : Int) + 1 + (m : Int))), y5]) ∧
        ∀ (i : Nat) (p q r : P2), s ≤ i → i < s + l → pts[i]? = some p → pts[s + 1 + m]? = some q → pts[t]? = some r → three p q r e = true) ⟨S1, ⟨_, rfl⟩, fun i p q r h1 h2 => by omega⟩ ?_ ?_⟩
      · rintro l σ H2 hl ⟨S2, ⟨y5, rfl⟩, h2⟩
        obtain ⟨v1, p, e1, f1, g1⟩ := getP (i := s + l) hvs (by omega)
        obtain ⟨v2, q, e2, f2, g2⟩ := getP (i := s + 1 + m) hvs (by omega)
        obtain ⟨v3, r, e3, f3, g3⟩ := getP (i := t) hvs (by omega)
        have hA2 := S2 _ _ hA
        refine ⟨_, rfl, _, rfl, _, _, _, _, rfl, rfl, SqL.of hA2, at_of (j := s + l) (by omega) e1, _, rfl, _, rfl, _, _, _, _, rfl, rfl, SqL.of hA2, at_of (j := s + 1 + m) (by omega) e2, _, rfl, _, rfl, _, _, _, _, rfl, rfl, SqL.of hA2, at_of (j := t) (by omega) e3, _, rfl, ?_⟩
        refine ⟨_, _, _, p, q, r, _, rfl, IsPt.mono _ _ _ _ (sameT S2) g1, IsPt.mono _ _ _ _ (sameT S2) g2, IsPt.mono _ _ _ _ (sameT S2) g3, sm p (List.mem_of_getElem? f1), sm q (List.mem_of_getElem? f2), sm r (List.mem_of_getElem? f3), se, _, rfl, ite2 (fun hc => ?_) (fun hc => ?_)⟩
        · have hf : three p q r e = false := by simpa using hc
          refine ⟨_, rfl, _, rfl, _, rfl, (by show 3 ≤ sizeLine; decide), fun u nu => k _ _ (s + l) (s + 1 + m) (sameU S2 nu) ⟨u, rfl, ?_⟩ (by omega) (by omega) ?_⟩
          · rw [upd_same]
            congr 4
          · exact ⟨by show (s : Int) ≤ ((s + l : Nat) : Int); omega, by show ((s + l : Nat) : Int) < ((s + 1 + m : Nat) : Int); omega, by show ((s + 1 + m : Nat) : Int) < (t : Int); omega, Int.le_refl _, s + l, s + 1 + m, t, p, q, r, rfl, rfl, rfl, f1, f2, f3, hf⟩
        · refine ⟨S2, ⟨_, rfl⟩, fun i p' q' r' hs hi a1 a2 a3 => ?_⟩
          by_cases he : i = s + l
          · subst he
            rw [f1] at a1; rw [f2] at a2; rw [f3] at a3
            cases a1; cases a2; cases a3
            simpa using hc
          · exact h2 i p' q' r' hs (by omega) a1 a2 a3
      · rintro σ H2 ⟨S2, ⟨y5, rfl⟩, h2⟩
        refine ⟨S2, ⟨_, _, rfl⟩, fun i j p q r hs hi hj a1 a2 a3 => ?_⟩
        by_cases he : j = s + 1 + m
        · subst he
          exact h2 i p q r hs (by omega) a1 a2 a3
        · exact h1 i j p q r hs hi (by omega) a1 a2 a3
    · rintro σ H1 ⟨S1, ⟨y4, y5, rfl⟩, h1⟩
      exact (not_seg sOK sNo fun i j p q r hs hi hj => h1 i j p q r hs hi (by omega)).elim
def Low (pts : List P2) (e : Int) (l : P2) : Prop := ∃ i j : P2, i ∈ pts ∧ j ∈ pts ∧ i.1 < j.1 ∧ l = (j.2 - i.2 - 2 * e, j.1 - i.1)
theorem low_md {pts : List P2} {e : Int} {l : P2} (h : Low pts e l) (sm : ∀ q ∈ pts, SmP q) (se : Sm e) : Md l.1 ∧ Md l.2 ∧ 0 < l.2 := by
  obtain ⟨i, j, hi, hj, hij, rfl⟩ := h
  have a := sm i hi
  have b := sm j hj
  unfold SmP Sm at *
  unfold Md
  refine ⟨⟨?_, ?_⟩, ⟨?_, ?_⟩, ?_⟩
  · show _ < j.2 - i.2 - 2 * e
    omega
  · show j.2 - i.2 - 2 * e < _
    omega
  · show _ < j.1 - i.1
    omega
  · show j.1 - i.1 < _
    omega
  · show 0 < j.1 - i.1
    omega
theorem upQ_lg {p d e : Int} {m : P2} (hp : Md p) (hd : Md d) (he : Sm e) (hm : SmP m) : (upQ p d e m).natAbs < 10000000000000000000000000000000000000 := by
  have h1 := mul_bd (sm_nat hm.2) (md_nat hd)
  have h2 := mul_bd (sm_nat he) (md_nat hd)
  have h3 := mul_bd (md_nat hp) (sm_nat hm.1)
  unfold upQ
  omega
theorem lowQ_lg2 {p d e : Int} {m : P2} (hp : Md p) (hd : Md d) (he : Sm e) (hm : SmP m) : (lowQ p d e m).natAbs < 10000000000000000000000000000000000000 := by
  have h1 := mul_bd (sm_nat hm.2) (md_nat hd)
  have h2 := mul_bd (sm_nat he) (md_nat hd)
  have h3 := mul_bd (md_nat hp) (sm_nat hm.1)
  unfold lowQ
  omega
def spLineL : Sp := fun vs H Q _ => ∃ (a : Addr) (pts : List P2) (e : Int) (b : Bool), vs = [.ref a, .int e, .bl b] ∧ LsOf IsPt H a pts ∧ (∀ q ∈ pts, SmP q) ∧ Sm e ∧ 0 ≤ e ∧ pts.length ≤ 30 ∧ 0 < pts.length ∧ Asc pts ∧ PairsOK e pts ∧
  ∀ H' v (p q d : Int), Same H H' → IsTri H' v (p, q, d) → 1 ≤ d → (∀ pt ∈ pts, near p q d pt e = true) → Lg p → Lg q → Lg d → Q v H'
abbrev s_l_line : Stmt := topS 45
abbrev N_l_line : List Str := ["_law_points_here", "_law_error_here", "_law_turn", "_law_best", "_law_lows", "_law_j", "_law_i", "_law_low", "_law_p", "_law_d", "_law_q", "_law_top", "_law_point"]
theorem sc_l_line : FnScope N_l_line ["_law_points_here", "_law_error_here", "_law_turn"] (defScope s_l_line) := ⟨rfl, rfl, rfl, by decide +kernel, rfl, by decide +kernel, by decide +kernel⟩
theorem bd_l_line : BindsN "_law_line" "_law_line" s_l_line ["_law_points_here", "_law_error_here", "_law_turn"] := fun _ _ _ _ _ _ us hl => match us, hl with | [_, _, _], _ => rfl
theorem ok_l_line (T : Txt mg) (D : DefAt K mg "_law_line" s_l_line) : Cal P w K mg base 1 "_law_line" spLineL [] := by
  refine cal_of D sc_l_line bd_l_line (fun vs H Q E h => ?_) (fun f cdv A outer s H vs Q E hr h => ?_)
  · obtain ⟨a, pts, e, b, rfl, _⟩ := h
    rfl
  · obtain ⟨a, pts, e, b, rfl, ⟨vs, hA, hvs⟩, sm, se, he, hlen, hpos, asc, prs, k⟩ := h
    have hL : vs.length = pts.length := hvs.length
    refine ⟨_, (pss_cons (ps_set (i := 3) sc_l_line.nd rfl (.inl rfl) (pe_tup (pa_cons pe_int (pa_cons pe_int (pa_cons pe_int pa_nil)))))
      (pss_cons (ps_if (pt_cmpR op_eq (pe_callB call_len_seq (by rfl) T.len (by decide +kernel) (pa_cons (pv 0) pa_nil)) pe_int (nomark _)) (pss_one (ps_ret (pe_tup (pa_cons pe_int (pa_cons (pe_ix ix_tup (pe_ix ix_list (pv 0) pe_int (fun _ _ => rfl)) pe_int (fun _ _ => rfl)) (pa_cons pe_int pa_nil)))))) pss_nil)
      (pss_cons (ps_set (i := 4) sc_l_line.nd rfl (.inl rfl) (pe_lst pa_nil))
      (pss_cons (ps_for PassesOwn.never rfl (pi_range2 rfl T.range (pa_cons pe_int (pa_cons (pe_callB call_len_seq (by rfl) T.len (by decide +kernel) (pa_cons (pv 0) pa_nil)) pa_nil))) (pg_name (i := 5) sc_l_line.nd rfl (.inl rfl)) (pss_one (ps_for PassesOwn.never rfl (pi_range1 rfl T.range (pa_cons (pv 5) pa_nil)) (pg_name (i := 6) sc_l_line.nd rfl (.inl rfl)) (pss_one (ps_expr (pe_bm PySem.F.plainAttrs_list PySem.F.slot_list_append PySem.F.type_list_append mt_append (pv 4) (pa_cons (pe_tup (pa_cons (pe_op op_sub (pe_op op_sub (pe_ix ix_tup (pe_ix ix_list (pv 0) (pv 5) (fun _ _ => rfl)) pe_int (fun _ _ => rfl)) (pe_ix ix_tup (pe_ix ix_list (pv 0) (pv 6) (fun _ _ => rfl)) pe_int (fun _ _ => rfl))) (pe_op op_mul pe_int (pv 1))) (pa_cons (pe_op op_sub (pe_ix ix_tup (pe_ix ix_list (pv 0) (pv 5) (fun _ _ => rfl)) pe_int (fun _ _ => rfl)) (pe_ix ix_tup (pe_ix ix_list (pv 0) (pv 6) (fun _ _ => rfl)) pe_int (fun _ _ => rfl))) pa_nil))) pa_nil)))))))
      (pss_cons (ps_set (i := 3) sc_l_line.nd rfl (.inl rfl) (pe_ix ix_list (pv 4) pe_int (fun _ _ => rfl)))
      (pss_cons (ps_for PassesOwn.never rfl (pi_list (pv 4)) (pg_name (i := 7) sc_l_line.nd rfl (.inl rfl)) (pss_one (ps_if (pt_cmpR op_gt (pe_op op_mul (pe_ix ix_tup (pv 7) pe_int (fun _ _ => rfl)) (pe_ix ix_tup (pv 3) pe_int (fun _ _ => rfl))) (pe_op op_mul (pe_ix ix_tup (pv 3) pe_int (fun _ _ => rfl)) (pe_ix ix_tup (pv 7) pe_int (fun _ _ => rfl))) (nomark _)) (pss_one (ps_set (i := 3) sc_l_line.nd rfl (.inl rfl) (pv 7))) pss_nil)))
      (pss_cons (ps_asg (pv 3) (pg_tup (by rfl) (pgs_cons (pg_name (i := 8) sc_l_line.nd rfl (.inr rfl)) (pgs_cons (pg_name (i := 9) sc_l_line.nd rfl (.inr rfl)) pgs_nil))))
      (pss_cons (ps_set (i := 10) sc_l_line.nd rfl (.inl rfl) (pe_callB (cr_max rfl) (by rfl) T.max (by decide +kernel) (pa_cons (pe_lc (own := [("_law_point", 12)]) (g := (gName 12)) (tt := tYes) rfl sc_l_line.nd (pi_list (pv 0)) (blkOk_by (N := N_l_line) (own := [("_law_point", 12)]) (sc := defScope s_l_line) (by decide +kernel)) (fun _ _ _ _ _ => by exact (pg_name (i := 12) sc_l_line.nd rfl (.inl rfl))) (fun _ _ _ _ _ => pts_nil) (fun _ _ _ _ _ => by exact (pe_op op_sub (pe_op op_sub (pe_op op_mul (pe_ix (ixt (K := K) rfl) (pv 12) pe_int (fun _ _ => rfl)) (pv 9)) (pe_op op_mul (pv 1) (pv 9))) (pe_op op_mul (pv 8) (pe_ix (ixt (K := K) rfl) (pv 12) pe_int (fun _ _ => rfl)))))) pa_nil)))
      (pss_cons (ps_set (i := 11) sc_l_line.nd rfl (.inl rfl) (pe_callB (cr_min rfl) (by rfl) T.min (by decide +kernel) (pa_cons (pe_lc (own := [("_law_point", 12)]) (g := (gName 12)) (tt := tYes) rfl sc_l_line.nd (pi_list (pv 0)) (blkOk_by (N := N_l_line) (own := [("_law_point", 12)]) (sc := defScope s_l_line) (by decide +kernel)) (fun _ _ _ _ _ => by exact (pg_name (i := 12) sc_l_line.nd rfl (.inl rfl))) (fun _ _ _ _ _ => pts_nil) (fun _ _ _ _ _ => by exact (pe_op op_sub (pe_op op_add (pe_op op_mul (pe_ix (ixt (K := K) rfl) (pv 12) pe_int (fun _ _ => rfl)) (pv 9)) (pe_op op_mul (pv 1) (pv 9))) (pe_op op_mul (pv 8) (pe_ix (ixt (K := K) rfl) (pv 12) pe_int (fun _ _ => rfl)))))) pa_nil)))
      (pss_one (ps_ret (pe_tup (pa_cons (pe_op op_mul (pv 8) pe_int) (pa_cons (pe_ifExp (pt_val (pv 2)) (pe_op op_add (pv 10) (pv 11)) (pe_op op_mul pe_int (pv 10))) (pa_cons (pe_op op_mul (pv 9) pe_int) pa_nil))))))))))))))), ?_⟩
    refine ⟨(by show 3 ≤ sizeLine; decide), fun t0 n0 => ?_⟩
    have S0 := same_upd (o := .tup [.int 0, .int 0, .int 1]) n0
    refine ⟨_, rfl, _, _, rfl, .inl (SqL.of (S0 _ _ hA)), rfl, _, rfl, ite2 (fun c1 => ?_) (fun c1 => ?_)⟩
    · have d1 : pts.length = 1 := by
        have := V.int.inj (of_decide_eq_true c1)
        omega
      obtain ⟨v1, p, e1, f1, t1, rfl, ht1⟩ := getP (i := 0) hvs hpos
      refine ⟨_, rfl, _, _, _, _, rfl, rfl, SqL.of (S0 _ _ hA), atI_nat (j := 0) e1, _, _, _, _, rfl, rfl, SqT.of (S0 _ _ ht1), atI_nat (j := 1) rfl, (by show 3 ≤ sizeLine; decide), fun t nt => k _ _ 0 p.2 1 (sameU S0 nt) ⟨t, rfl, upd_same⟩ (by decide) (fun pt hpt => ?_) (by unfold Lg; decide) ?_ (by unfold Lg; decide)⟩
      · obtain ⟨i, hi⟩ := List.mem_iff_getElem?.mp hpt
        have : i = 0 := by
          have := (List.getElem?_eq_some_iff.mp hi).1
          omega
        subst this
        rw [f1] at hi
        cases hi
        rw [near_iff]
        constructor <;> omega
      · have := (sm p (List.mem_of_getElem? f1)).2
        unfold Sm at this
        unfold Lg
        omega
    have d1 : 2 ≤ pts.length := by
      have : ¬ pts.length = 1 := fun z => c1 (decide_eq_true (by rw [hL, z]; rfl))
      omega
    refine ⟨(by show 0 ≤ sizeLine; decide), fun L nL => ?_⟩
    have SL := S0.trans (same_upd (o := .lst []) nL)
    have nLH : H L = none := by
      by_cases z : L = t0
      · rw [z]
        exact n0
      · rwa [upd_ne z] at nL
    have get : ∀ {H' : Hp}, Same H H' → ∀ i, i < pts.length → ∃ t p, vs[i]? = some (.ref t) ∧ pts[i]? = some p ∧ H' t = some (.tup [.int p.1, .int p.2]) := fun S i hi => by
      obtain ⟨v1, p, e1, f1, t1, rfl, ht1⟩ := getP hvs hi
      exact ⟨t1, p, e1, f1, S _ _ ht1⟩
    refine ⟨_, rfl, _, _, rfl, .inl (SqL.of (SL _ _ hA)), _, _, rfl, (by omega), for_range (lo := 1) (n := ((vs.length : Int) - 1).toNat) (fun m σ H' => Same H H' ∧ (∃ y5 y6, σ = [some (.ref a), some (.int e), some (.bl b), some (.ref t0), some (.ref L), y5, y6, none, none, none, none, none, none]) ∧
      ∃ lv lows, H' L = some (.lst lv) ∧ Paired (IsPt H') lv lows ∧ (∀ l ∈ lows, Low pts e l) ∧ lows.length ≤ m * 30 ∧ ∀ (i j : Nat) (p q : P2), i < j → j < m + 1 → pts[i]? = some p → pts[j]? = some q → (q.2 - p.2 - 2 * e, q.1 - p.1) ∈ lows)
      ⟨SL, ⟨_, _, rfl⟩, [], [], upd_same, .nil, fun l hl => (by cases hl), Nat.zero_le _, fun i j p q h1 h2 => by omega⟩ ?_ ?_⟩
    · rintro m σ H1 hm ⟨S1, ⟨y5, y6, rfl⟩, lv, lows, hL1, hlv, lo, ll, cpl⟩
      have hm : m + 1 < pts.length := by omega
      refine ⟨_, rfl, _, rfl, (by omega), (by omega), for_range (lo := 0) (n := (1 + (m : Int)).toNat) (fun l σ H' => Same H H' ∧ (∃ y6, σ = [some (.ref a), some (.int e), some (.bl b), some (.ref t0), some (.ref L), some (.int (1 + (m : Int))), y6, none, none, none, none, none, none]) ∧
        ∃ lv lows, H' L = some (.lst lv) ∧ Paired (IsPt H') lv lows ∧ (∀ l ∈ lows, Low pts e l) ∧ lows.length ≤ m * 30 + l ∧ (∀ (i j : Nat) (p q : P2), i < j → j < m + 1 → pts[i]? = some p → pts[j]? = some q → (q.2 - p.2 - 2 * e, q.1 - p.1) ∈ lows) ∧ ∀ (i : Nat) (p q : P2), i < l → pts[i]? = some p → pts[m + 1]? = some q → (q.2 - p.2 - 2 * e, q.1 - p.1) ∈ lows)
        ⟨S1, ⟨_, rfl⟩, lv, lows, hL1, hlv, lo, ll, cpl, fun i p q h => by omega⟩ ?_ ?_⟩
      · rintro l σ H2 hl ⟨S2, ⟨y6, rfl⟩, lv, lows, hL2, hlv, lo, ll, cpl, cp2⟩
        have hl : l < m + 1 := by omega
        obtain ⟨ta, p, ea, fa, ga⟩ := get S2 l (by omega)
        obtain ⟨tb, q, eb, fb, gb⟩ := get S2 (m + 1) hm
        have hA2 := S2 _ _ hA
        refine ⟨_, rfl, .inl ⟨rfl, _, SqL.of hL2⟩, _, rfl, _, rfl, _, _, _, _, rfl, rfl, SqL.of hA2, at_of (j := m + 1) (by omega) eb, _, _, _, _, rfl, rfl, SqT.of gb, atI_nat (j := 1) rfl, _, rfl, _, rfl, _, _, _, _, rfl, rfl, SqL.of hA2, at_of (j := l) (by omega) ea, _, _, _, _, rfl, rfl, SqT.of ga, atI_nat (j := 1) rfl, _, _, rfl, rfl, _, rfl, _, _, rfl, rfl, .inl (by decide), _, _, rfl, rfl, _, rfl, _, rfl, _, _, _, _, rfl, rfl, SqL.of hA2, at_of (j := m + 1) (by omega) eb, _, _, _, _, rfl, rfl, SqT.of gb, atI_nat (j := 0) rfl, _, rfl, _, rfl, _, _, _, _, rfl, rfl, SqL.of hA2, at_of (j := l) (by omega) ea, _, _, _, _, rfl, rfl, SqT.of ga, atI_nat (j := 0) rfl, _, _, rfl, rfl, (by show 2 ≤ sizeLine; decide), fun t nt => ?_⟩
        have S3 := sameU (o := .tup [.int (q.2 - p.2 - 2 * e), .int (q.1 - p.1)]) S2 nt
        have hL3 := same_upd (o := .tup [.int (q.2 - p.2 - 2 * e), .int (q.1 - p.1)]) nt _ _ hL2
        refine ⟨L, lv, .ref t, rfl, rfl, hL3, small_size (by rw [hlv.length]; omega), same_at S3 nLH, ⟨_, rfl⟩, lv ++ [.ref t], lows ++ [(q.2 - p.2 - 2 * e, q.1 - p.1)], upd_same, ?_, fun x hx => ?_, by rw [List.length_append]; simp; omega, fun i j p' q' h1 h2 h3 h4 => List.mem_append_left _ (cpl i j p' q' h1 h2 h3 h4), fun i p' q' h1 h2 h3 => ?_⟩
        · have t3 : ∀ b' xs, (upd H2 t (.tup [.int (q.2 - p.2 - 2 * e), .int (q.1 - p.1)])) b' = some (.tup xs) → (upd (upd H2 t (.tup [.int (q.2 - p.2 - 2 * e), .int (q.1 - p.1)])) L (.lst (lv ++ [.ref t]))) b' = some (.tup xs) := fun b' xs q' => by
            rw [upd_ne (fun z => by
              rw [z, hL3] at q'
              cases q')]
            exact q'
          exact paired_app (pairedSame IsPt.mono (fun b' xs q' => t3 b' xs (same_upd nt _ _ q')) hlv) (.cons ⟨t, rfl, t3 _ _ upd_same⟩ .nil)
        · rcases List.mem_append.mp hx with h | h
          · exact lo x h
          · rw [List.mem_singleton.mp h]
            exact ⟨p, q, List.mem_of_getElem? fa, List.mem_of_getElem? fb, asc_at asc fa fb (by omega), rfl⟩
        · by_cases z : i = l
          · subst z
            rw [fa] at h2
            rw [fb] at h3
            cases h2
            cases h3
            exact List.mem_append_right _ (List.mem_singleton.mpr rfl)
          · exact List.mem_append_left _ (cp2 i p' q' (by omega) h2 h3)
      · rintro σ H2 ⟨S2, ⟨y6, rfl⟩, lv, lows, hL2, hlv, lo, ll, cpl, cp2⟩
        refine ⟨S2, ⟨_, _, rfl⟩, lv, lows, hL2, hlv, lo, by omega, fun i j p q h1 h2 h3 h4 => ?_⟩
        by_cases z : j = m + 1
        · subst z
          exact cp2 i p q (by omega) h3 h4
        · exact cpl i j p q h1 (by omega) h3 h4
    rintro σ H1 ⟨S1, ⟨y5, y6, rfl⟩, lv, lows, hL1, hlv, lo, ll, cpl⟩
    have cpl : ∀ a ∈ pts, ∀ b ∈ pts, a.1 < b.1 → (b.2 - a.2 - 2 * e, b.1 - a.1) ∈ lows := fun p hp q hq hpq => by
      obtain ⟨i, hi⟩ := List.mem_iff_getElem?.mp hp
      obtain ⟨j, hj⟩ := List.mem_iff_getElem?.mp hq
      have hij : i < j := by
        rcases Nat.lt_trichotomy i j with c | c | c
        · exact c
        · subst c
          rw [hi] at hj
          cases hj
          omega
        · have := asc_at asc hj hi c
          omega
      exact cpl i j p q hij (by have := (List.getElem?_eq_some_iff.mp hj).1; omega) hi hj
    have n0' : 0 < lows.length := by
      obtain ⟨ta, p, ea, fa, ga⟩ := get S1 0 (by omega)
      obtain ⟨tb, q, eb, fb, gb⟩ := get S1 1 (by omega)
      exact List.length_pos_of_mem (cpl p (List.mem_of_getElem? fa) q (List.mem_of_getElem? fb) (asc_at asc fa fb (by omega)))
    obtain ⟨v0, l0, e0, f0, g0⟩ := getP (i := 0) hlv n0'
    have lo0 := lo l0 (List.mem_of_getElem? f0)
    refine ⟨_, rfl, _, _, _, _, rfl, rfl, SqL.of hL1, atI_nat (j := 0) e0, _, rfl, L, rfl, ⟨_, SqL.of hL1⟩, for_list (K := K) (a := L) (xs := lv) (fun i σ H' => H' = H1 ∧ ∃ vb best y5 y6 y7, σ = [some (.ref a), some (.int e), some (.bl b), some vb, some (.ref L), y5, y6, y7, none, none, none, none, none] ∧ IsPt H1 vb best ∧ Low pts e best ∧ ∀ l ∈ lows.take i, l.1 * best.2 ≤ best.1 * l.2)
      ⟨rfl, v0, l0, _, _, _, rfl, g0, lo0, fun l hl => (by simp at hl)⟩ (fun i σ H' _ h => h.1 ▸ SqL.of hL1) ?_ ?_⟩
    · rintro i x σ H2 hx ⟨rfl, vb, best, y5, y6, y7, rfl, gb, lb, mx⟩
      obtain ⟨low, hlow, gl⟩ := paired_get hlv hx
      have ll' := lo low (List.mem_of_getElem? hlow)
      obtain ⟨m1, m2, m3⟩ := low_md lb sm se
      obtain ⟨n1, n2, n3⟩ := low_md ll' sm se
      obtain ⟨tb, rfl, hb⟩ := gb
      obtain ⟨tl, rfl, hl⟩ := gl
      refine ⟨_, rfl, _, _, _, _, rfl, rfl, SqT.of (hl), rfl, _, rfl, _, _, _, _, rfl, rfl, SqT.of (hb), rfl, _, _, rfl, rfl, .inl (md64 n1), _, rfl, _, _, _, _, rfl, rfl, SqT.of (hb), rfl, _, rfl, _, _, _, _, rfl, rfl, SqT.of (hl), rfl, _, _, rfl, rfl, .inl (md64 m1), _, _, rfl, rfl, _, rfl, ite2 (fun c2 => ?_) (fun c2 => ?_)⟩
      · have d2 : best.1 * low.2 < low.1 * best.2 := of_decide_eq_true c2
        refine ⟨_, rfl, rfl, .ref tl, low, _, _, _, rfl, ⟨tl, rfl, hl⟩, ll', fun l h => ?_⟩
        rw [take_get hlow] at h
        rcases List.mem_append.mp h with h | h
        · obtain ⟨_, _, q3⟩ := low_md (lo l (List.mem_of_mem_take h)) sm se
          exact ftrans m3 (by omega) (by omega) (mx l h) (Int.le_of_lt d2)
        · rw [List.mem_singleton.mp h]
          exact Int.le_refl _
      · have d2 : low.1 * best.2 ≤ best.1 * low.2 := by
          have : ¬ best.1 * low.2 < low.1 * best.2 := fun z => c2 (decide_eq_true z)
          omega
        refine ⟨rfl, .ref tb, best, _, _, _, rfl, ⟨tb, rfl, hb⟩, lb, fun l h => ?_⟩
        rw [take_get hlow] at h
        rcases List.mem_append.mp h with h | h
        · exact mx l h
        · rw [List.mem_singleton.mp h]
          exact d2
    · rintro σ H2 ⟨rfl, vb, best, y5, y6, y7, rfl, ⟨tb, rfl, hb⟩, lb, mx⟩
      rw [hlv.length, List.take_length] at mx
      obtain ⟨m1, m2, m3⟩ := low_md lb sm se
      have SO : SlopeOK e pts best.1 best.2 := by
        obtain ⟨i, j, hi, hj, hij, rfl⟩ := lb
        exact slope_best prs hi hj hij fun a ha b hb hab => mx _ (cpl a ha b hb hab)
      generalize hpp : best.1 = p at *
      generalize hdd : best.2 = d at *
      have hA1 := S1 _ _ hA
      have szA : vs.length < sizeLine := small_size (by omega)
      refine ⟨_, rfl, tb, _, rfl, SqT.of hb, rfl, _, _, rfl, _, _, rfl, rfl, ?_⟩
      refine ⟨_, rfl, a, rfl, ⟨_, SqL.of hA1⟩, fun D1 nD1 => lc_mapL (pts.map fun q => V.int (lowQ p d e q)) nD1 hA1 (by rw [List.length_map, hL]) szA (fun i x y H' Qk N0 hx hy S q => ?_) (fun H3 S3 hD1 => ⟨D1, pts.map (lowQ p d e), rfl, SqL.of (by rw [hD1, List.map_map]; rfl), (by rw [List.length_map]; omega), fun qv hq1 hq2 => ?_⟩)⟩
      · obtain ⟨pt, hpt, t, rfl, ht⟩ := paired_get hvs hx
        rw [List.getElem?_map, hpt] at hy
        cases hy
        have sp := sm pt (List.mem_of_getElem? hpt)
        have ht' := S _ _ (S1 _ _ ht)
        exact ⟨rfl, _, rfl, _, _, _, _, rfl, rfl, SqT.of ht', atI_nat (j := 1) rfl, _, rfl, _, _, rfl, rfl, .inl (sm64 sp.2), _, rfl, _, rfl, _, _, rfl, rfl, .inl (sm64 se), _, _, rfl, rfl, _, rfl, _, rfl, _, _, _, _, rfl, rfl, SqT.of ht', atI_nat (j := 0) rfl, _, _, rfl, rfl, .inl (md64 m1), _, _, rfl, rfl, q _ (Same.refl _)⟩
      refine ⟨_, rfl, a, rfl, ⟨_, SqL.of (S3 _ _ hA1)⟩, fun D2 nD2 => lc_mapL (pts.map fun q => V.int (upQ p d e q)) nD2 (S3 _ _ hA1) (by rw [List.length_map, hL]) szA (fun i x y H' Qk N0 hx hy S q => ?_) (fun H4 S4 hD2 => ⟨D2, pts.map (upQ p d e), rfl, SqL.of (by rw [hD2, List.map_map]; rfl), (by rw [List.length_map]; omega), fun tv ht1 ht2 => ?_⟩)⟩
      · obtain ⟨pt, hpt, t, rfl, ht⟩ := paired_get hvs hx
        rw [List.getElem?_map, hpt] at hy
        cases hy
        have sp := sm pt (List.mem_of_getElem? hpt)
        have ht' := S _ _ (S3 _ _ (S1 _ _ ht))
        exact ⟨rfl, _, rfl, _, _, _, _, rfl, rfl, SqT.of ht', atI_nat (j := 1) rfl, _, rfl, _, _, rfl, rfl, .inl (sm64 sp.2), _, rfl, _, rfl, _, _, rfl, rfl, .inl (sm64 se), _, _, rfl, rfl, _, rfl, _, rfl, _, _, _, _, rfl, rfl, SqT.of ht', atI_nat (j := 0) rfl, _, _, rfl, rfl, .inl (md64 m1), _, _, rfl, rfl, q _ (Same.refl _)⟩
      obtain ⟨qm, hqm, rfl⟩ := List.mem_map.mp hq1
      obtain ⟨tm, htm, rfl⟩ := List.mem_map.mp ht1
      have qmax : ∀ pt ∈ pts, lowQ p d e pt ≤ lowQ p d e qm := fun pt hpt => hq2 _ (List.mem_map_of_mem hpt)
      have tmin : ∀ pt ∈ pts, upQ p d e tm ≤ upQ p d e pt := fun pt hpt => ht2 _ (List.mem_map_of_mem hpt)
      have fit := SO.fit he asc.inj hqm qmax
      have near2 : ∀ pt ∈ pts, near (p * 2) (if b = true then lowQ p d e qm + upQ p d e tm else 2 * lowQ p d e qm) (d * 2) pt e = true := fun pt hpt => near_twice (qmax pt hpt) (fit pt hpt) (tmin pt hpt) (fit tm htm) b
      have g1 : Lg (p * 2) := by
        have := md_nat m1
        unfold Lg
        omega
      have g3 : Lg (d * 2) := by
        have := md_nat m2
        unfold Lg
        omega
      have g2 : Lg (if b = true then lowQ p d e qm + upQ p d e tm else 2 * lowQ p d e qm) := by
        have a1 := lowQ_lg2 m1 m2 se (sm qm hqm)
        have a2 := upQ_lg m1 m2 se (sm tm htm)
        unfold Lg
        split <;> omega
      have S14 := (S1.trans S3).trans S4
      cases b with
      | true =>
        exact ⟨_, rfl, _, _, rfl, rfl, .inr (by decide), _, rfl, _, rfl, _, rfl, _, rfl, _, _, rfl, rfl, _, rfl, _, _, rfl, rfl, .inr (by decide), (by show 3 ≤ sizeLine; decide), fun t nt => k _ _ _ _ _ (sameU S14 nt) ⟨t, rfl, upd_same⟩ (by omega) near2 g1 g2 g3⟩
      | false =>
        exact ⟨_, rfl, _, _, rfl, rfl, .inr (by decide), _, rfl, _, rfl, _, rfl, _, _, rfl, rfl, .inl (by decide), _, rfl, _, _, rfl, rfl, .inr (by decide), (by show 3 ≤ sizeLine; decide), fun t nt => k _ _ _ _ _ (sameU S14 nt) ⟨t, rfl, upd_same⟩ (by omega) near2 g1 g2 g3⟩
end
end KW
namespace KW
open PySem PySem.Spec PyProof.Rows L2 KG KT
/-- where the piece k ends -/
def enN (st : List Nat) (n k : Nat) : Nat := (st[k + 1]?).getD n
theorem enN_get {st : List Nat} {n k : Nat} (hk : k < st.length) : (vns (st.drop 1 ++ [n]))[k]? = some (.int (enN st n k : Nat)) := by
  refine vns_get ?_
  unfold enN
  by_cases h : k + 1 < st.length
  · rw [List.getElem?_append_left (by rw [List.length_drop]; omega), List.getElem?_drop, Nat.add_comm 1 k, List.getElem?_eq_getElem h]
    rfl
  · rw [List.getElem?_append_right (by rw [List.length_drop]; omega), List.length_drop, show k - (st.length - 1) = 0 by omega, List.getElem?_eq_none (show st.length ≤ k + 1 by omega)]
    rfl
theorem cut_tail (xs : List V) : cutV xs (some 1) none = xs.drop 1 := by
  cases xs with
  | nil =>
    unfold cutV
    simp
  | cons x r => exact cut_from (s := 1) (by simp)
section
variable {pts : List P2} {e : Int} {st : List Nat}
theorem _root_.KG.Greedy.seg (G : Greedy pts e pts.length st) {k a : Nat} (h : st[k]? = some a) : SegOK pts e a (enN st pts.length k) := by
  unfold enN
  cases g : st[k + 1]? with
  | none => exact G.lst k a h g
  | some b => exact (G.fit k a b h g).1
theorem _root_.KG.Greedy.pos (G : Greedy pts e pts.length st) {k a : Nat} (h : st[k]? = some a) : a < enN st pts.length k ∧ enN st pts.length k ≤ pts.length := by
  unfold enN
  cases g : st[k + 1]? with
  | none => exact ⟨G.lt k a h, Nat.le_refl _⟩
  | some b => exact ⟨G.asc k a b h g, Nat.le_of_lt (G.lt _ _ g)⟩
theorem _root_.KG.Greedy.len (G : Greedy pts e pts.length st) : st.length ≤ pts.length := by
  have : ∀ (k a : Nat), st[k]? = some a → k ≤ a := by
    intro k
    induction k with
    | zero => exact fun a _ => Nat.zero_le _
    | succ k ih =>
      intro a ha
      have hk : k < st.length := by have := (List.getElem?_eq_some_iff.mp ha).1; omega
      have g := List.getElem?_eq_getElem hk
      have := ih _ g
      have := G.asc k _ _ g ha
      omega
  rcases Nat.eq_zero_or_pos st.length with z | z
  · omega
  · have g := List.getElem?_eq_getElem (show st.length - 1 < st.length by omega)
    have h1 := this _ _ g
    have h2 := G.lt _ _ g
    omega
structure RightP (pts : List P2) (e : Int) (st : List Nat) (k : Nat) (pc : Pc) : Prop where
  at_ : st[k]? = some pc.1.toNat
  nn : 0 ≤ pc.1
  d : 1 ≤ pc.2.2.2
  near : ∀ (i : Nat) p, pc.1.toNat ≤ i → i < enN st pts.length k → pts[i]? = some p → near pc.2.1 pc.2.2.1 pc.2.2.2 p e = true
  l1 : Lg pc.2.1
  l2 : Lg pc.2.2.1
  l3 : Lg pc.2.2.2
structure RightR (pts : List P2) (e : Int) (st : List Nat) (k : Nat) (r : L3) : Prop where
  is_ : ∃ a b : Nat, st[k]? = some a ∧ st[k + 1]? = some b ∧ ReasonIs pts e r a b
  n1 : 0 ≤ r.1 ∧ r.1 < 1000
  n2 : 0 ≤ r.2.1 ∧ r.2.1 < 1000
  n3 : 0 ≤ r.2.2 ∧ r.2.2 < 1000
theorem right_judged (G : Greedy pts e pts.length st) {ps : List Pc} {rs : List L3} (lp : ps.length = st.length) (lr : rs.length = st.length - 1) (hp : ∀ k pc, ps[k]? = some pc → RightP pts e st k pc) (hr : ∀ k r, rs[k]? = some r → RightR pts e st k r) : Judged pts e ps rs := by
  by_cases z : pts = []
  · have : st = [] := G.emp (by rw [z]; rfl)
    subst this
    exact .inl ⟨z, List.length_eq_zero_iff.mp lp, List.length_eq_zero_iff.mp lr⟩
  · have hn : 0 < pts.length := List.length_pos_iff.mpr z
    have h0 := G.first hn
    have l0 : 0 < st.length := (List.getElem?_eq_some_iff.mp h0).1
    have pat : ∀ {k a : Nat}, st[k]? = some a → ∃ pc : Pc, ps[k]? = some pc ∧ pc.1 = (a : Nat) := fun {k a} h => by
      have hk : k < ps.length := by rw [lp]; exact (List.getElem?_eq_some_iff.mp h).1
      have g := List.getElem?_eq_getElem hk
      have r := hp k _ g
      have e1 := r.at_
      rw [h] at e1
      have e2 := Option.some.inj e1
      have := r.nn
      exact ⟨_, g, by omega⟩
    have sat : ∀ {k a : Nat}, st[k]? = some a → stAt ps pts.length k = (a : Nat) := fun {k a} h => by
      obtain ⟨pc, g, e1⟩ := pat h
      rw [stAt_of g, e1]
    have mat : ∀ {k : Nat} {x : Int}, (ps.map (·.1))[k]? = some x → ∃ a : Nat, st[k]? = some a ∧ x = (a : Nat) := fun {k x} h => by
      rw [List.getElem?_map] at h
      cases g : ps[k]? with
      | none =>
        rw [g] at h
        cases h
      | some pc =>
        rw [g] at h
        have hx : pc.1 = x := Option.some.inj h
        have r := hp k _ g
        have := r.nn
        exact ⟨_, r.at_, by omega⟩
    refine .inr ⟨z, ⟨?_, ?_, ?_⟩, by omega, fun k pc hk => ?_, fun k r hk => ?_⟩
    · obtain ⟨pc, g, e1⟩ := pat h0
      rw [List.getElem?_map, g]
      exact congrArg some e1
    · intro x hx
      obtain ⟨a, h1, rfl⟩ := mat hx
      have := G.lt _ _ h1
      omega
    · intro k x y hx hy
      obtain ⟨a, h1, rfl⟩ := mat hx
      obtain ⟨b, h2, rfl⟩ := mat hy
      have := G.asc _ _ _ h1 h2
      omega
    · have r := hp k pc hk
      refine ⟨r.d, fun i p h1 h2 h3 => r.near i p (by omega) ?_ h3⟩
      unfold enN
      cases g : st[k + 1]? with
      | none =>
        rw [stAt_end (by rw [lp]; exact List.getElem?_eq_none_iff.mp g)] at h2
        show i < pts.length
        omega
      | some b =>
        rw [sat g] at h2
        show i < b
        omega
    · obtain ⟨a, b, h1, h2, h3⟩ := (hr k r hk).is_
      rw [sat h1, sat h2]
      exact h3
theorem right_nums {ps : List Pc} {rs : List L3} (hn : pts.length ≤ 900) (G : Greedy pts e pts.length st) (hp : ∀ k pc, ps[k]? = some pc → RightP pts e st k pc) (hr : ∀ k r, rs[k]? = some r → RightR pts e st k r) : NumsOK ps rs := by
  refine ⟨fun p h => ?_, fun r h => ?_⟩
  · obtain ⟨k, hk⟩ := List.mem_iff_getElem?.mp h
    have q := hp k p hk
    have := G.lt _ _ q.at_
    have := q.nn
    have := q.d
    exact ⟨q.nn, by unfold Lg; omega, q.l1, q.l2, by omega, q.l3⟩
  · obtain ⟨k, hk⟩ := List.mem_iff_getElem?.mp h
    have q := hr k r hk
    have := q.n1
    have := q.n2
    have := q.n3
    exact ⟨by omega, by unfold Lg; omega, by omega, by unfold Lg; omega, by omega, by unfold Lg; omega⟩
end
section
variable {P : Program} {w : World} {K : PySem.W.Frag} {mg : Str → Option Value} {base : Heap} {CF CC CI fI : Addr}
def spRight : Sp := fun vs H Q _ => ∃ (a : Addr) (pts : List P2) (e : Int) (b : Bool), vs = [.ref a, .int e, .bl b] ∧ LsOf IsPt H a pts ∧ (∀ q ∈ pts, SmP q) ∧ Sm e ∧ 0 ≤ e ∧ pts.length ≤ 30 ∧ Asc pts ∧
  ∀ H' (t l1 l2 : Addr) ps rs, Same H H' → H' t = some (.tup [.ref l1, .ref l2]) → LsOf IsPc H' l1 ps → LsOf IsTri H' l2 rs → Judged pts e ps rs → NumsOK ps rs → ps.length ≤ pts.length → rs.length ≤ ps.length → (rs.length + 1 = ps.length ∨ (ps = [] ∧ rs = [])) → Q (.ref t) H'
abbrev s_l_right : Stmt := topS 47
abbrev N_l_right : List Str := ["_law_points_here", "_law_error_here", "_law_turn", "_law_starts_here", "_law_ends", "_law_pieces", "_law_reasons", "_law_k"]
theorem sc_l_right : FnScope N_l_right ["_law_points_here", "_law_error_here", "_law_turn"] (defScope s_l_right) := ⟨rfl, rfl, rfl, by decide +kernel, rfl, by decide +kernel, by decide +kernel⟩
theorem bd_l_right : BindsN "_law_right" "_law_right" s_l_right ["_law_points_here", "_law_error_here", "_law_turn"] := fun _ _ _ _ _ _ us hl => match us, hl with | [_, _, _], _ => rfl
theorem ok_l_right (T : Txt mg) (D : DefAt K mg "_law_right" s_l_right) (c_l_starts : Cal P w K mg base 3 "_law_starts" spStarts []) (c_l_line : Cal P w K mg base 1 "_law_line" spLineL []) (c_l_reason : Cal P w K mg base 2 "_law_reason" spReasonL []) : Cal P w K mg base 4 "_law_right" spRight [] := by
  refine cal_of D sc_l_right bd_l_right (fun vs H Q E h => ?_) (fun f cdv A outer s H vs Q E hr h => ?_)
  · obtain ⟨a, pts, e, b, rfl, _⟩ := h
    rfl
  · obtain ⟨a, pts, e, b, rfl, ⟨vs, hA, hvs⟩, sm, se, he, hlen, asc, k⟩ := h
    have hL : vs.length = pts.length := hvs.length
    refine ⟨_, (pss_cons (ps_set (i := 3) sc_l_right.nd rfl (.inr rfl) (C8.pe_c c_l_starts hr (by decide) (by rfl) (pa_cons (pv 0) (pa_cons (pv 1) pa_nil))))
      (pss_cons (ps_set (i := 4) sc_l_right.nd rfl (.inr rfl) (pe_op op_cat (pe_slice sl_list (pv 3) (po_some pe_int) po_none) (pe_lst (pa_cons (pe_callB call_len_seq (by rfl) T.len (by decide +kernel) (pa_cons (pv 0) pa_nil)) pa_nil))))
      (pss_cons (ps_setLc (i := 5) rfl sc_l_right.nd rfl rfl (sw_true rfl rfl rfl (by decide +kernel)) (own := [("_law_k", 7)]) (g := (gName 7)) (tt := tYes) (pi_range1 rfl T.range (pa_cons (pe_callB call_len_seq (by rfl) T.len (by decide +kernel) (pa_cons (pv 3) pa_nil)) pa_nil)) (blkOk_by (N := N_l_right) (own := [("_law_k", 7)]) (sc := defScope s_l_right) (by decide +kernel)) (fun _ _ _ _ _ => by exact (pg_name (i := 7) sc_l_right.nd rfl (.inl rfl))) (fun _ _ _ _ _ => pts_nil) (fun _ _ _ _ _ => by exact (pe_tup (pa_cons (pe_ix (ixl (K := K) rfl) (pv 3) (pv 7) (fun _ _ => rfl)) (pa_cons (C8.pe_c c_l_line hr (by decide) (by rfl) (pa_cons (pe_slice (sll (K := K) rfl) (pv 0) (po_some (pe_ix (ixl (K := K) rfl) (pv 3) (pv 7) (fun _ _ => rfl))) (po_some (pe_ix (ixl (K := K) rfl) (pv 4) (pv 7) (fun _ _ => rfl)))) (pa_cons (pv 1) (pa_cons (pv 2) pa_nil)))) pa_nil)))))
      (pss_cons (ps_setLc (i := 6) rfl sc_l_right.nd rfl rfl (sw_true rfl rfl rfl (by decide +kernel)) (own := [("_law_k", 7)]) (g := (gName 7)) (tt := tYes) (pi_range1 rfl T.range (pa_cons (pe_op op_sub (pe_callB call_len_seq (by rfl) T.len (by decide +kernel) (pa_cons (pv 3) pa_nil)) pe_int) pa_nil)) (blkOk_by (N := N_l_right) (own := [("_law_k", 7)]) (sc := defScope s_l_right) (by decide +kernel)) (fun _ _ _ _ _ => by exact (pg_name (i := 7) sc_l_right.nd rfl (.inl rfl))) (fun _ _ _ _ _ => pts_nil) (fun _ _ _ _ _ => by exact (C8.pe_c c_l_reason hr (by decide) (by rfl) (pa_cons (pv 0) (pa_cons (pv 1) (pa_cons (pe_ix (ixl (K := K) rfl) (pv 3) (pv 7) (fun _ _ => rfl)) (pa_cons (pe_ix (ixl (K := K) rfl) (pv 4) (pv 7) (fun _ _ => rfl)) pa_nil)))))))
      (pss_one (ps_ret (pe_tup (pa_cons (pv 5) (pa_cons (pv 6) pa_nil))))))))), ?_⟩
    refine ⟨_, rfl, _, rfl, a, pts, e, rfl, ⟨vs, hA, hvs⟩, sm, se, by omega, fun H1 L st S1 hL1 G => ?_⟩
    have ls := G.len
    refine ⟨_, rfl, 1, rfl, L, _, rfl, SqL.of hL1, fun q nq => ?_⟩
    rw [cut_tail]
    have S2 := sameU (o := .lst ((vns st).drop 1)) S1 nq
    refine ⟨_, rfl, _, _, rfl, .inl (SqL.of (S2 _ _ hA)), (by show 1 ≤ sizeLine; decide), fun q2 nq2 => ?_⟩
    refine ⟨q, q2, _, _, rfl, rfl, same_upd nq2 _ _ upd_same, upd_same, ?_, fun E nE => ?_⟩
    · rw [List.length_drop, vns_len]
      exact Nat.le_of_lt (small_size (by show st.length - 1 + 1 ≤ _; omega))
    have S12 : Same H1 (upd (upd (upd H1 q (.lst ((vns st).drop 1))) q2 (.lst [.int (vs.length : Int)])) E (.lst ((vns st).drop 1 ++ [.int (vs.length : Int)]))) := ((same_upd nq).trans (same_upd nq2)).trans (same_upd nE)
    have hE := upd_same (H := upd (upd H1 q (.lst ((vns st).drop 1))) q2 (.lst [.int (vs.length : Int)])) (a := E) (o := .lst ((vns st).drop 1 ++ [.int (vs.length : Int)]))
    generalize upd (upd (upd H1 q (.lst ((vns st).drop 1))) q2 (.lst [.int (vs.length : Int)])) E (.lst ((vns st).drop 1 ++ [.int (vs.length : Int)])) = H4 at S12 hE
    rw [show (vns st).drop 1 ++ [V.int (vs.length : Int)] = vns (st.drop 1 ++ [pts.length]) by rw [vns_app, hL]; unfold vns; rw [List.map_drop]] at hE
    have S4 := S1.trans S12
    have hL4 := S12 _ _ hL1
    have hA4 := S4 _ _ hA
    refine ⟨_, rfl, _, _, rfl, .inl (SqL.of hL4), _, rfl, (by rw [vns_len]; omega), (by rw [vns_len]; omega), fun D1 nD1 => lc_range (lo := 0) (n := ((vns st).length : Int).toNat) (fun i H' => Same H4 H' ∧ ∃ pv ps, H' D1 = some (.lst pv) ∧ Paired (IsPc H') pv ps ∧ ps.length = i ∧ ∀ k pc, ps[k]? = some pc → RightP pts e st k pc)
      ⟨same_upd nD1, [], [], upd_same, .nil, rfl, fun k pc h => (by simp at h)⟩ ?_ ?_⟩
    · rintro i H5 hi ⟨S5, pv, ps, hD, hpv, lps, hps⟩
      rw [vns_len] at hi
      have hi : i < st.length := by omega
      have ga := List.getElem?_eq_getElem hi
      generalize st[i] = x at ga
      have hseg := G.seg ga
      have hpo := G.pos ga
      have gE := enN_get (n := pts.length) hi
      generalize hy : enN st pts.length i = y at hseg hpo gE
      have hL5 := S5 _ _ hL4
      have hE5 := S5 _ _ hE
      have hA5 := S5 _ _ hA4
      refine ⟨rfl, _, rfl, _, rfl, _, _, _, _, rfl, rfl, SqL.of hL5, at_of (j := i) (by omega) (vns_get ga), _, rfl, _, rfl, _, rfl, _, _, _, _, rfl, rfl, SqL.of hL5, at_of (j := i) (by omega) (vns_get ga), _, rfl, _, rfl, _, rfl, _, _, _, _, rfl, rfl, SqL.of hE5, at_of (j := i) (by omega) gE, _, rfl, a, vs, rfl, SqL.of hA5, fun sl nsl => ?_⟩
      have eC : cutV vs (some ((x : Nat) : Int)) (some ((y : Nat) : Int)) = (vs.drop x).take (y - x) := cut_nat (by omega) (by omega)
      rw [eC]
      have S6 := sameU (o := .lst ((vs.drop x).take (y - x))) (S4.trans S5) nsl
      have slen : ((pts.drop x).take (y - x)).length = y - x := by
        rw [List.length_take, List.length_drop]
        omega
      have sasc : Asc ((pts.drop x).take (y - x)) := slc_asc (s := x) (k := y) asc
      refine ⟨_, rfl, _, rfl, sl, (pts.drop x).take (y - x), e, b, rfl, ⟨_, upd_same, pairedSame IsPt.mono (sameT S6) (paired_take _ (paired_drop _ hvs))⟩, fun q hq => sm q (List.mem_of_mem_drop (List.mem_of_mem_take hq)), se, he, by omega, by omega, sasc, pairs_of_ix he sasc (seg_slice.mpr hseg), fun H7 v lp lq ld S7 iL d1 nr g1 g2 g3 => ⟨(by show 2 ≤ sizeLine; decide), fun t nt => ?_⟩⟩
      have S57 := (same_upd nsl).trans S7
      have hD8 := same_upd (o := .tup [.int (x : Nat), v]) nt _ _ (S57 _ _ hD)
      refine ⟨pv, hD8, small_size (by rw [hpv.length]; omega), same_at ((S5.trans S57).trans (same_upd nt)) nD1, pv ++ [.ref t], ps ++ [(((x : Nat) : Int), (lp, lq, ld))], upd_same, ?_, by rw [List.length_append, lps]; rfl, fun k pc hk => ?_⟩
      · have t3 : ∀ b' xs, (upd H7 t (.tup [.int (x : Nat), v])) b' = some (.tup xs) → (upd (upd H7 t (.tup [.int (x : Nat), v])) D1 (.lst (pv ++ [.ref t]))) b' = some (.tup xs) := fun b' xs q' => by
          rw [upd_ne (fun z => by
            rw [z, hD8] at q'
            cases q')]
          exact q'
        exact paired_app (pairedSame IsPc.mono (fun b' xs q' => t3 b' xs (same_upd nt _ _ (S57 _ _ q'))) hpv) (.cons ⟨t, v, rfl, t3 _ _ upd_same, IsTri.mono _ _ _ _ (fun b' xs q' => t3 b' xs (same_upd nt _ _ q')) iL⟩ .nil)
      · rcases snoc_get hk with ⟨h1, h2⟩ | ⟨h1, h2⟩
        · exact hps k pc h2
        · subst h2
          rw [h1, lps]
          refine ⟨ga, by show (0 : Int) ≤ (x : Nat); omega, d1, fun m p b1 b2 b3 => ?_, g1, g2, g3⟩
          have b1 : x ≤ m := b1
          rw [hy] at b2
          exact nr p (slc_near (s := x) (k := y) b1 b2 b3)
    · rintro H5 ⟨S5, pv, ps, hD, hpv, lps, hps⟩
      rw [vns_len] at lps
      have lps : ps.length = st.length := by omega
      have hL5 := S5 _ _ hL4
      have hE5 := S5 _ _ hE
      refine ⟨_, rfl, _, _, rfl, .inl (SqL.of hL5), _, _, rfl, rfl, _, rfl, (by rw [vns_len]; omega), (by rw [vns_len]; omega), fun D2 nD2 => lc_range (lo := 0) (n := (((vns st).length : Int) - 1).toNat) (fun i H' => Same H5 H' ∧ ∃ rv rs, H' D2 = some (.lst rv) ∧ Paired (IsTri H') rv rs ∧ rs.length = i ∧ ∀ k r, rs[k]? = some r → RightR pts e st k r)
        ⟨same_upd nD2, [], [], upd_same, .nil, rfl, fun k r h => (by simp at h)⟩ ?_ ?_⟩
      · rintro i H6 hi ⟨S6, rv, rs, hR, hrv, lrs, hrs⟩
        rw [vns_len] at hi
        have hi : i + 1 < st.length := by omega
        have ga := List.getElem?_eq_getElem (show i < st.length by omega)
        have gb := List.getElem?_eq_getElem hi
        generalize st[i] = x at ga
        generalize st[i + 1] = y at gb
        have gE := enN_get (n := pts.length) (show i < st.length by omega)
        have hen : enN st pts.length i = y := by
          unfold enN
          rw [gb]
          rfl
        rw [hen] at gE
        obtain ⟨f1, f2⟩ := G.fit i x y ga gb
        have hxy := G.asc i x y ga gb
        have hyn := G.lt _ _ gb
        have hL6 := S6 _ _ hL5
        have hE6 := S6 _ _ hE5
        have SA6 := (S4.trans S5).trans S6
        refine ⟨rfl, _, rfl, _, rfl, _, rfl, _, rfl, _, _, _, _, rfl, rfl, SqL.of hL6, at_of (j := i) (by omega) (vns_get ga), _, rfl, _, rfl, _, _, _, _, rfl, rfl, SqL.of hE6, at_of (j := i) (by omega) gE, ?_⟩
        refine ⟨a, pts, e, x, y, rfl, ⟨vs, SA6 _ _ hA, pairedSame IsPt.mono (sameT SA6) hvs⟩, sm, se, by omega, hxy, hyn, f1, f2, fun H7 v i1 j1 S7 iT b1 b2 isR => ?_⟩
        have hR7 := S7 _ _ hR
        refine ⟨rv, hR7, small_size (by rw [hrv.length]; omega), same_at (S6.trans S7) nD2, rv ++ [v], rs ++ [(((i1 : Nat) : Int), ((j1 : Nat) : Int), ((y : Nat) : Int))], upd_same, ?_, by rw [List.length_append, lrs]; rfl, fun k r hk => ?_⟩
        · have t3 : ∀ b' xs, H7 b' = some (.tup xs) → (upd H7 D2 (.lst (rv ++ [v]))) b' = some (.tup xs) := fun b' xs q' => by
            rw [upd_ne (fun z => by
              rw [z, hR7] at q'
              cases q')]
            exact q'
          exact paired_app (pairedSame IsTri.mono (fun b' xs q' => t3 b' xs (S7 _ _ q')) hrv) (.cons (IsTri.mono _ _ _ _ t3 iT) .nil)
        · rcases snoc_get hk with ⟨h1, h2⟩ | ⟨h1, h2⟩
          · exact hrs k r h2
          · subst h2
            rw [h1, lrs]
            exact ⟨⟨x, y, ga, gb, isR⟩, ⟨by show (0 : Int) ≤ (i1 : Nat); omega, by show ((i1 : Nat) : Int) < 1000; omega⟩, ⟨by show (0 : Int) ≤ (j1 : Nat); omega, by show ((j1 : Nat) : Int) < 1000; omega⟩, ⟨by show (0 : Int) ≤ (y : Nat); omega, by show ((y : Nat) : Int) < 1000; omega⟩⟩
      · rintro H6 ⟨S6, rv, rs, hR, hrv, lrs, hrs⟩
        rw [vns_len] at lrs
        have lrs : rs.length = st.length - 1 := by omega
        refine ⟨_, rfl, _, rfl, (by show 2 ≤ sizeLine; decide), fun t nt => ?_⟩
        have S7 := same_upd (o := .tup [.ref D1, .ref D2]) nt
        have S67 := S6.trans S7
        refine k _ t D1 D2 ps rs (((S4.trans S5).trans S6).trans S7) upd_same ⟨pv, S67 _ _ hD, pairedSame IsPc.mono (sameT S67) hpv⟩ ⟨rv, S7 _ _ hR, pairedSame IsTri.mono (sameT S7) hrv⟩ (right_judged G lps lrs hps hrs) (right_nums (by omega) G hps hrs) (by omega) (by omega) ?_
        rcases Nat.eq_zero_or_pos st.length with z | z
        · exact .inr ⟨List.length_eq_zero_iff.mp (by omega), List.length_eq_zero_iff.mp (by omega)⟩
        · exact .inl (by omega)
end
end KW
namespace KW
open PySem PySem.Spec PyProof.Rows L2 KG KT
theorem str_sz {a b : LL} {x y : Str} (hx : x = SX.S a) (hy : y = SX.S b) (h : a.length + b.length ≤ 1000000) : x.length + y.length ≤ sizeLine := by
  subst hx hy
  rw [SX.S_len, SX.S_len]
  exact Nat.le_of_lt (small_size h)
theorem piece_text (i a b c : Int) : Str.ofString "piece " ++ Str.ofString (toString i) ++ Str.ofString " " ++ Txt.join (Str.ofString " ") ([numI a, numI b, numI c].map SX.S) = SX.S (pieceT (i, a, b, c)) := by
  rw [show Str.ofString "piece " = SX.S (pieceC ++ [32]) by decide +kernel, show Str.ofString " " = SX.S [32] by decide +kernel, str_int, SX.join_S, SX.S_cat, SX.S_cat, SX.S_cat]
  congr 1
  unfold pieceT
  simp only [TL.joinL, List.append_assoc]
theorem reason_text (a b c : Int) : Str.ofString "reason " ++ Txt.join (Str.ofString " ") ([numI a, numI b, numI c].map SX.S) = SX.S (reasonT (a, b, c)) := by
  rw [show Str.ofString "reason " = SX.S (reasonC ++ [32]) by decide +kernel, show Str.ofString " " = SX.S [32] by decide +kernel, SX.join_S, SX.S_cat]
  rfl
theorem num_nth {a b c : Int} {i : Nat} {x y : V} (g1 : Lg a) (g2 : Lg b) (g3 : Lg c) (hx : [V.int a, V.int b, V.int c][i]? = some x) (hy : (([a, b, c] : List Int).map fun z => V.str (SX.S (numI z)))[i]? = some y) : ∃ z, x = .int z ∧ Lg z ∧ y = .str (Str.ofString (toString z)) := by
  match i, hx, hy with
  | 0, hx, hy => cases hx; cases hy; exact ⟨_, rfl, g1, by rw [str_int]⟩
  | 1, hx, hy => cases hx; cases hy; exact ⟨_, rfl, g2, by rw [str_int]⟩
  | 2, hx, hy => cases hx; cases hy; exact ⟨_, rfl, g3, by rw [str_int]⟩
  | i + 3, hx, hy => cases hx
theorem join_sz3 {a b c : Int} (g1 : Lg a) (g2 : Lg b) (g3 : Lg c) : (([numI a, numI b, numI c].map SX.S).map (·.length)).sum + ([numI a, numI b, numI c].map SX.S).length * (Str.ofString " ").length ≤ 16777216 := by
  have q1 := lg_len g1
  have q2 := lg_len g2
  have q3 := lg_len g3
  rw [SX.lens, show Str.ofString " " = SX.S [32] by decide +kernel, SX.S_len]
  simp only [List.map, List.sum_cons, List.sum_nil, List.length_cons, List.length_nil]
  omega
theorem join_len3 {a b c : Int} (g1 : Lg a) (g2 : Lg b) (g3 : Lg c) : (TL.joinL [32] [numI a, numI b, numI c]).length ≤ 200 := by
  have q1 := lg_len g1
  have q2 := lg_len g2
  have q3 := lg_len g3
  refine Nat.le_trans (joinL_len 32 _) ?_
  simp only [tot_cons, show tot [] = 0 from rfl]
  omega
section
variable {P : Program} {w : World} {K : PySem.W.Frag} {mg : Str → Option Value} {base : Heap} {CF CC CI fI : Addr}
def spLinesL : Sp := fun vs H Q _ => ∃ l1 l2 ps rs, vs = [.ref l1, .ref l2] ∧ LsOf IsPc H l1 ps ∧ LsOf IsTri H l2 rs ∧ NumsOK ps rs ∧ ps.length ≤ 1000 ∧ rs.length ≤ ps.length ∧ ∀ H' L, Same H H' → H' L = some (.lst (vls (writeW ps rs))) → Q (.ref L) H'
abbrev s_l_lines : Stmt := topS 48
abbrev N_l_lines : List Str := ["_law_pieces", "_law_reasons", "_law_lines_here", "_law_k", "_law_start", "_law_line_here", "_law_number"]
theorem sc_l_lines : FnScope N_l_lines ["_law_pieces", "_law_reasons"] (defScope s_l_lines) := ⟨rfl, rfl, rfl, by decide +kernel, rfl, by decide +kernel, by decide +kernel⟩
theorem bd_l_lines : BindsN "_law_lines" "_law_lines" s_l_lines ["_law_pieces", "_law_reasons"] := fun _ _ _ _ _ _ us hl => match us, hl with | [_, _], _ => rfl
theorem ok_l_lines (T : Txt mg) (D : DefAt K mg "_law_lines" s_l_lines) : Cal P w K mg base 1 "_law_lines" spLinesL [] := by
  refine cal_of D sc_l_lines bd_l_lines (fun vs H Q E h => ?_) (fun f cdv A outer s H vs Q E hr h => ?_)
  · obtain ⟨a, b, ps, rs, rfl, _⟩ := h
    rfl
  · obtain ⟨l1, l2, ps, rs, rfl, ⟨pvs, hP, hpv⟩, ⟨rvs, hR, hrv⟩, NK, hps, hrl, k⟩ := h
    have hLp : pvs.length = ps.length := hpv.length
    have hLr : rvs.length = rs.length := hrv.length
    refine ⟨_, (pss_cons (ps_set (i := 2) sc_l_lines.nd rfl (.inl rfl) (pe_lst (pa_cons pe_str pa_nil)))
      (pss_cons (ps_for PassesOwn.never rfl (pi_range1 rfl T.range (pa_cons (pe_callB call_len_seq (by rfl) T.len (by decide +kernel) (pa_cons (pv 0) pa_nil)) pa_nil)) (pg_name (i := 3) sc_l_lines.nd rfl (.inl rfl)) (pss_cons (ps_asg (pe_ix ix_list (pv 0) (pv 3) (fun _ _ => rfl)) (pg_tup (by rfl) (pgs_cons (pg_name (i := 4) sc_l_lines.nd rfl (.inl rfl)) (pgs_cons (pg_name (i := 5) sc_l_lines.nd rfl (.inl rfl)) pgs_nil))))
        (pss_cons (ps_expr (pe_bm PySem.F.plainAttrs_list PySem.F.slot_list_append PySem.F.type_list_append mt_append (pv 2) (pa_cons (pe_op op_add_str (pe_op op_add_str (pe_op op_add_str pe_str (pe_callTy call_str_int (by rfl) T.str (by decide +kernel) (pa_cons (pv 4) pa_nil))) pe_str) (pe_join pe_str (pe_lc (own := [("_law_number", 6)]) (g := (gName 6)) (tt := tYes) rfl sc_l_lines.nd (pi_tup (pv 5)) (blkOk_by (N := N_l_lines) (own := [("_law_number", 6)]) (sc := defScope s_l_lines) (by decide +kernel)) (fun _ _ _ _ _ => by exact (pg_name (i := 6) sc_l_lines.nd rfl (.inl rfl))) (fun _ _ _ _ _ => pts_nil) (fun _ _ _ _ _ => by exact (pe_callTy call_str_int (by rfl) T.str (by decide +kernel) (pa_cons (pv 6) pa_nil)))))) pa_nil)))
        (pss_one (ps_if (pt_cmpR op_lt (pv 3) (pe_callB call_len_seq (by rfl) T.len (by decide +kernel) (pa_cons (pv 1) pa_nil)) (nomark _)) (pss_one (ps_expr (pe_bm PySem.F.plainAttrs_list PySem.F.slot_list_append PySem.F.type_list_append mt_append (pv 2) (pa_cons (pe_op op_add_str pe_str (pe_join pe_str (pe_lc (own := [("_law_number", 6)]) (g := (gName 6)) (tt := tYes) rfl sc_l_lines.nd (pi_tup (pe_ix ix_list (pv 1) (pv 3) (fun _ _ => rfl))) (blkOk_by (N := N_l_lines) (own := [("_law_number", 6)]) (sc := defScope s_l_lines) (by decide +kernel)) (fun _ _ _ _ _ => by exact (pg_name (i := 6) sc_l_lines.nd rfl (.inl rfl))) (fun _ _ _ _ _ => pts_nil) (fun _ _ _ _ _ => by exact (pe_callTy call_str_int (by rfl) T.str (by decide +kernel) (pa_cons (pv 6) pa_nil)))))) pa_nil)))) pss_nil)))))
      (pss_one (ps_ret (pv 2))))), ?_⟩
    refine ⟨(by show 1 ≤ sizeLine; decide), fun L nL => ⟨_, rfl, _, _, rfl, .inl (SqL.of (same_upd nL _ _ hP)), _, rfl, (by omega), (by omega), for_range (lo := 0) (n := (pvs.length : Int).toNat) (fun i σ H' => Same H H' ∧ H' L = some (.lst (vls (cuttingC :: bodyL (ps.take i) (rs.take i)))) ∧ ∃ y3 y4 y5, σ = [some (.ref l1), some (.ref l2), some (.ref L), y3, y4, y5, none])
      ⟨same_upd nL, upd_same, _, _, _, rfl⟩ ?_ ?_⟩⟩
    · rintro i σ H1 hi ⟨S1, hL1, y3, y4, y5, rfl⟩
      have hi : i < ps.length := by omega
      have hp := List.getElem?_eq_getElem hi
      generalize ps[i] = p at hp
      obtain ⟨n0, n1, n2, n3, n4, n5⟩ := NK.p p (List.mem_of_getElem? hp)
      obtain ⟨x, ex, hxp⟩ := paired_get' hpv hp
      obtain ⟨i0, a, b, c⟩ := p
      have n1 : Lg i0 := n1
      have n2 : Lg a := n2
      have n3 : Lg b := n3
      have n5 : Lg c := n5
      obtain ⟨t, v, rfl, ht, ⟨u, rfl, hu⟩⟩ := hxp
      have bl : (cuttingC :: bodyL (ps.take i) (rs.take i)).length ≤ 3000 := by
        have := body_len (ps := ps.take i) (rs := rs.take i)
        rw [List.length_take] at this
        rw [List.length_cons]
        omega
      have body := body_snoc (rs := rs) hp
      have q1 := lg_len n1
      have j3 := join_len3 n2 n3 n5
      refine ⟨_, rfl, _, rfl, _, _, _, _, rfl, rfl, SqL.of (S1 _ _ hP), at_of (j := i) (by omega) ex, t, _, rfl, SqT.of (S1 _ _ ht), rfl, _, _, rfl, _, _, rfl, rfl, ?_⟩
      refine ⟨_, rfl, .inl ⟨rfl, _, SqL.of hL1⟩, _, rfl, i0, rfl, lg_log n1, _, _, rfl, rfl, str_sz (show Str.ofString "piece " = SX.S (pieceC ++ [32]) by decide +kernel) (str_int i0) (by simp [pieceC]; omega), _, _, rfl, rfl, ?_, ?_⟩
      · rw [show Str.ofString "piece " = SX.S (pieceC ++ [32]) by decide +kernel, str_int, SX.S_cat]
        exact str_sz rfl (show Str.ofString " " = SX.S [32] by decide +kernel) (by simp [pieceC]; omega)
      refine ⟨⟨_, rfl⟩, _, rfl, u, rfl, ⟨_, SqT.of (S1 _ _ hu)⟩, fun D hD => lc_mapT (([a, b, c] : List Int).map fun z => V.str (SX.S (numI z))) hD (S1 _ _ hu) rfl (by show 3 < sizeLine; decide) (fun i' x y H' Qk N0 hx hy S q => ?_) (fun H2 S2 hD2 => ?_)⟩
      · obtain ⟨z, rfl, gz, rfl⟩ := num_nth n2 n3 n5 hx hy
        exact ⟨rfl, _, rfl, z, rfl, lg_log gz, q _ (Same.refl _)⟩
      have hL2 := S2 _ _ hL1
      refine ⟨_, D, [numI a, numI b, numI c].map SX.S, rfl, rfl, .inl (SqL.of (by rw [hD2]; rfl)), join_sz3 n2 n3 n5, _, _, rfl, rfl, ?_, L, _, _, rfl, rfl, hL2, small_size (by rw [vls_len]; omega), ?_⟩
      · rw [show Str.ofString "piece " = SX.S (pieceC ++ [32]) by decide +kernel, str_int, show Str.ofString " " = SX.S [32] by decide +kernel, SX.join_S, SX.S_cat, SX.S_cat]
        exact str_sz rfl rfl (by simp [pieceC]; omega)
      rw [piece_text]
      have S3 := same_at (o := .lst (vls (cuttingC :: bodyL (ps.take i) (rs.take i)) ++ [V.str (SX.S (pieceT (i0, a, b, c)))])) (S1.trans S2) nL
      have hL3 := upd_same (H := H2) (a := L) (o := .lst (vls (cuttingC :: bodyL (ps.take i) (rs.take i)) ++ [V.str (SX.S (pieceT (i0, a, b, c)))]))
      rw [show vls (cuttingC :: bodyL (ps.take i) (rs.take i)) ++ [V.str (SX.S (pieceT (i0, a, b, c)))] = vls (cuttingC :: bodyL (ps.take i) (rs.take i) ++ [pieceT (i0, a, b, c)]) by rw [vls_app]; rfl] at hL3 S3 ⊢
      refine ⟨_, rfl, _, rfl, _, _, rfl, .inl (SqL.of (S3 _ _ hR)), _, _, rfl, rfl, _, rfl, ite2 (fun c1 => ?_) (fun c1 => ?_)⟩
      · have d1 : i < rs.length := by
          have := of_decide_eq_true c1
          omega
        have hr := List.getElem?_eq_getElem d1
        generalize rs[i] = r at hr
        obtain ⟨y, ey, hyr⟩ := paired_get' hrv hr
        obtain ⟨r1, r2, r3⟩ := r
        obtain ⟨u2, rfl, hu2⟩ := hyr
        obtain ⟨_, m1, _, m2, _, m3⟩ := NK.r _ (List.mem_of_getElem? hr)
        have m1 : Lg r1 := m1
        have m2 : Lg r2 := m2
        have m3 : Lg r3 := m3
        have j4 := join_len3 m1 m2 m3
        refine ⟨_, rfl, .inl ⟨rfl, _, SqL.of hL3⟩, ⟨_, rfl⟩, _, rfl, _, rfl, _, _, _, _, rfl, rfl, SqL.of (S3 _ _ hR), at_of (j := i) (by omega) ey, u2, rfl, ⟨_, SqT.of (S3 _ _ hu2)⟩, fun D2 nD2 => lc_mapT (([r1, r2, r3] : List Int).map fun z => V.str (SX.S (numI z))) nD2 (S3 _ _ hu2) rfl (by show 3 < sizeLine; decide) (fun i' x y H' Qk N0 hx hy S q => ?_) (fun H4 S4 hD4 => ?_)⟩
        · obtain ⟨z, rfl, gz, rfl⟩ := num_nth m1 m2 m3 hx hy
          exact ⟨rfl, _, rfl, z, rfl, lg_log gz, q _ (Same.refl _)⟩
        have hL4 := S4 _ _ hL3
        refine ⟨_, D2, [numI r1, numI r2, numI r3].map SX.S, rfl, rfl, .inl (SqL.of (by rw [hD4]; rfl)), join_sz3 m1 m2 m3, _, _, rfl, rfl, ?_, L, _, _, rfl, rfl, hL4, small_size (by rw [vls_len, List.length_append]; simp at bl ⊢; omega), same_at (S3.trans S4) nL, ?_, _, _, _, rfl⟩
        · rw [show Str.ofString " " = SX.S [32] by decide +kernel, SX.join_S]
          exact str_sz (show Str.ofString "reason " = SX.S (reasonC ++ [32]) by decide +kernel) rfl (by simp [reasonC]; omega)
        · rw [upd_same, body, hr, reason_text]
          show some (HO.lst (vls (cuttingC :: bodyL (ps.take i) (rs.take i) ++ [pieceT (i0, a, b, c)]) ++ _)) = some (HO.lst (vls (cuttingC :: bodyL (ps.take i) (rs.take i) ++ [pieceT (i0, a, b, c), reasonT (r1, r2, r3)])))
          rw [show cuttingC :: bodyL (ps.take i) (rs.take i) ++ [pieceT (i0, a, b, c), reasonT (r1, r2, r3)] = (cuttingC :: bodyL (ps.take i) (rs.take i) ++ [pieceT (i0, a, b, c)]) ++ [reasonT (r1, r2, r3)] by simp, vls_app _ [reasonT (r1, r2, r3)]]
          rfl
      · have d1 : rs[i]? = none := List.getElem?_eq_none (by
          have : ¬ (0 + (i : Int)) < (rvs.length : Int) := fun z => c1 (decide_eq_true z)
          omega)
        refine ⟨S3, ?_, _, _, _, rfl⟩
        rw [hL3, body, d1]
        rfl
    · rintro σ H1 ⟨S1, hL1, y3, y4, y5, rfl⟩
      rw [show (pvs.length : Int).toNat = ps.length by omega, List.take_length, List.take_of_length_le hrl] at hL1
      exact ⟨_, rfl, k H1 L S1 hL1⟩
end
end KW
namespace KW
open PySem PySem.Spec PyProof.Rows L2 KG KT
theorem cutV_vls (ls : List LL) (lo hi : Option Int) : ∃ x, cutV (vls ls) lo hi = vls x ∧ tot x ≤ tot ls ∧ x.length ≤ ls.length := by
  unfold cutV
  refine ⟨(ls.drop (HT.sIx (vls ls).length 0 lo)).take (HT.sIx (vls ls).length (vls ls).length hi - HT.sIx (vls ls).length 0 lo), ?_, ?_, ?_⟩
  · unfold vls
    rw [List.map_take, List.map_drop]
  · have h1 := tot_take_drop ls (HT.sIx (vls ls).length 0 lo)
    have h2 := tot_take_drop (ls.drop (HT.sIx (vls ls).length 0 lo)) (HT.sIx (vls ls).length (vls ls).length hi - HT.sIx (vls ls).length 0 lo)
    omega
  · rw [List.length_take, List.length_drop]
    omega
theorem atI_ex {α : Type} {xs : List α} {s : Int} (h0 : 0 ≤ s) (h1 : s < (xs.length : Int)) : ∃ v, atI xs s = some v := by
  have h : s.toNat < xs.length := by omega
  have g := atI_nat (List.getElem?_eq_getElem h)
  rw [show ((s.toNat : Nat) : Int) = s by omega] at g
  exact ⟨_, g⟩
theorem cat_sz {x y : List LL} {n : Nat} (hx : tot x ≤ n) (hy : tot y ≤ n) (hn : n ≤ 400000) : (vls x).length + (vls y).length ≤ sizeLine := by
  rw [vls_len, vls_len]
  have := tot_len x
  have := tot_len y
  exact Nat.le_of_lt (small_size (by omega))
section
variable {P : Program} {w : World} {K : PySem.W.Frag} {mg : Str → Option Value} {base : Heap} {CF CC CI fI : Addr}
def spChanged : Sp := fun vs H Q _ => ∃ (l : Addr) (c : Int) (o : Addr) (ls odd : List LL), vs = [.ref l, .int c, .ref o] ∧ H l = some (.lst (vls ls)) ∧ H o = some (.lst (vls odd)) ∧ tot ls ≤ 20000 ∧ tot odd ≤ 100 ∧ odd ≠ [] ∧ ∀ H' r ls', Same H H' → H' r = some (.lst (vls ls')) → tot ls' ≤ 5 * tot ls + 200 → Q (.ref r) H'
abbrev s_l_changed : Stmt := topS 44
abbrev N_l_changed : List Str := ["_law_lines_here", "_law_cell_here", "_law_odd", "_law_choice", "_law_at", "_law_other", "_law_rest", "_law_place", "_law_text", "_law_char"]
theorem sc_l_changed : FnScope N_l_changed ["_law_lines_here", "_law_cell_here", "_law_odd"] (defScope s_l_changed) := ⟨rfl, rfl, rfl, by decide +kernel, rfl, by decide +kernel, by decide +kernel⟩
theorem bd_l_changed : BindsN "_law_changed" "_law_changed" s_l_changed ["_law_lines_here", "_law_cell_here", "_law_odd"] := fun _ _ _ _ _ _ us hl => match us, hl with | [_, _, _], _ => rfl
theorem ok_l_changed (T : Txt mg) (D : DefAt K mg "_law_changed" s_l_changed) : Cal P w K mg base 1 "_law_changed" spChanged [] := by
  refine cal_of D sc_l_changed bd_l_changed (fun vs H Q E h => ?_) (fun f cdv A outer s H vs Q E hr h => ?_)
  · obtain ⟨l, c, o, ls, odd, rfl, _⟩ := h
    rfl
  · obtain ⟨l, c, o, ls, odd, rfl, hl, ho, ht, hto, hne, k⟩ := h
    refine ⟨_, (pss_cons (ps_set (i := 3) sc_l_changed.nd rfl (.inl rfl) (pe_op op_mod (pe_callTy call_int1 (by rfl) T.int (by decide +kernel) (pa_cons (pv 1) pa_nil)) pe_int))
      (pss_cons (ps_set (i := 4) sc_l_changed.nd rfl (.inl rfl) (pe_op op_mod (pe_callTy call_int1 (by rfl) T.int (by decide +kernel) (pa_cons (pe_op op_fdiv (pv 1) pe_int) pa_nil)) (pe_callB (call_max2 rfl) (by rfl) T.max (by decide +kernel) (pa_cons pe_int (pa_cons (pe_callB call_len_seq (by rfl) T.len (by decide +kernel) (pa_cons (pv 0) pa_nil)) pa_nil)))))
      (C8.pss_cut (ps_set (i := 5) sc_l_changed.nd rfl (.inl rfl) (pe_callTy call_int1 (by rfl) T.int (by decide +kernel) (pa_cons (pe_op op_fdiv (pv 1) pe_int) pa_nil)))
      (pss_cons (ps_if (pt_cmpR op_eq (pv 3) pe_int (nomark _)) (pss_one (ps_ret (pe_op op_cat (pe_slice sl_list (pv 0) po_none (po_some (pv 4))) (pe_slice sl_list (pv 0) (po_some (pe_op op_add (pv 4) pe_int)) po_none)))) pss_nil)
      (pss_cons (ps_if (pt_cmpR op_eq (pv 3) pe_int (nomark _)) (pss_one (ps_ret (pe_op op_cat (pe_slice sl_list (pv 0) po_none (po_some (pe_op op_add (pv 4) pe_int))) (pe_slice sl_list (pv 0) (po_some (pv 4)) po_none)))) pss_nil)
      (pss_cons (ps_if (pt_cmpR op_eq (pv 3) pe_int (nomark _)) (pss_cons (ps_set (i := 6) sc_l_changed.nd rfl (.inl rfl) (pe_op op_cat (pe_slice sl_list (pv 0) po_none (po_some (pv 4))) (pe_slice sl_list (pv 0) (po_some (pe_op op_add (pv 4) pe_int)) po_none)))
        (pss_cons (ps_set (i := 7) sc_l_changed.nd rfl (.inl rfl) (pe_op op_mod (pe_callTy call_int1 (by rfl) T.int (by decide +kernel) (pa_cons (pv 5) pa_nil)) (pe_op op_add (pe_callB call_len_seq (by rfl) T.len (by decide +kernel) (pa_cons (pv 6) pa_nil)) pe_int)))
        (pss_one (ps_ret (pe_op op_cat (pe_op op_cat (pe_slice sl_list (pv 6) po_none (po_some (pv 7))) (pe_slice sl_list (pv 0) (po_some (pv 4)) (po_some (pe_op op_add (pv 4) pe_int)))) (pe_slice sl_list (pv 6) (po_some (pv 7)) po_none)))))) pss_nil)
      (pss_cons (ps_if (pt_cmpR op_eq (pv 3) pe_int (nomark _)) (pss_one (ps_ret (pe_op op_cat (pe_op op_cat (pe_slice sl_list (pv 0) po_none (po_some (pv 4))) (pe_lst (pa_cons (pe_ix ix_list (pv 2) (pe_op op_mod (pe_callTy call_int1 (by rfl) T.int (by decide +kernel) (pa_cons (pv 5) pa_nil)) (pe_callB call_len_seq (by rfl) T.len (by decide +kernel) (pa_cons (pv 2) pa_nil))) (fun _ _ => rfl)) pa_nil))) (pe_slice sl_list (pv 0) (po_some (pe_op op_add (pv 4) pe_int)) po_none)))) pss_nil)
      (pss_cons (ps_if (pt_cmpR op_eq (pv 3) pe_int (nomark _)) (pss_one (ps_ret (pe_op op_cat (pe_op op_cat (pe_slice sl_list (pv 0) po_none (po_some (pv 4))) (pe_lst (pa_cons (pe_ix ix_list (pv 2) (pe_op op_mod (pe_callTy call_int1 (by rfl) T.int (by decide +kernel) (pa_cons (pv 5) pa_nil)) (pe_callB call_len_seq (by rfl) T.len (by decide +kernel) (pa_cons (pv 2) pa_nil))) (fun _ _ => rfl)) pa_nil))) (pe_slice sl_list (pv 0) (po_some (pv 4)) po_none)))) pss_nil)
      (pss_cons (ps_if (pt_cmpR op_eq (pv 3) pe_int (nomark _)) (pss_one (ps_ret (pe_op op_cat (pv 0) (pe_lst (pa_cons pe_str pa_nil))))) pss_nil)
      (pss_cons (ps_if (pt_cmpR op_eq (pv 3) pe_int (nomark _)) (pss_one (ps_ret (pe_slice sl_list (pv 0) po_none (po_some (pv 4))))) pss_nil)
      (pss_cons (ps_set (i := 8) sc_l_changed.nd rfl (.inl rfl) (pe_join pe_str (pv 0)))
      (pss_cons (ps_set (i := 7) sc_l_changed.nd rfl (.inl rfl) (pe_op op_mod (pe_callTy call_int1 (by rfl) T.int (by decide +kernel) (pa_cons (pv 5) pa_nil)) (pe_op op_add (pe_callB call_len_str (by rfl) T.len (by decide +kernel) (pa_cons (pv 8) pa_nil)) pe_int)))
      (C8.pss_cut (ps_set (i := 9) sc_l_changed.nd rfl (.inl rfl) (pe_ix ix_str pe_str (pe_op op_mod (pe_callTy call_int1 (by rfl) T.int (by decide +kernel) (pa_cons (pe_op op_fdiv (pv 5) pe_int) pa_nil)) pe_int) (fun _ _ => rfl)))
      (pss_cons (ps_if (pt_cmpR op_eq (pv 3) pe_int (nomark _)) (pss_one (ps_ret (pe_split (pe_op op_add_str (pe_slice C8.sl_txt (pv 8) po_none (po_some (pv 7))) (pe_slice C8.sl_txt (pv 8) (po_some (pe_op op_add (pv 7) pe_int)) po_none)) pe_str))) pss_nil)
      (pss_one (ps_ret (pe_split (pe_op op_add_str (pe_op op_add_str (pe_slice C8.sl_txt (pv 8) po_none (po_some (pv 7))) (pv 9)) (pe_slice C8.sl_txt (pv 8) (po_some (pe_op op_add (pv 7) (pe_op op_mod (pe_callTy call_int1 (by rfl) T.int (by decide +kernel) (pa_cons (pe_op op_fdiv (pv 5) pe_int) pa_nil)) pe_int))) po_none)) pe_str))))))))))))))))), ?_⟩
    refine ⟨_, rfl, .inl ⟨_, rfl, _, _, rfl, rfl, (by show (0 : Int) < 9; decide), _, rfl, _, _, rfl, rfl, ⟨by decide, by decide⟩, .inl ⟨_, rfl, _, rfl, _, _, rfl, .inl (SqL.of hl), _, _, rfl, _, _, rfl, rfl, ?_, ?_⟩⟩⟩
    · show 0 < (if ((vls ls).length : Int) > 1 then ((vls ls).length : Int) else 1)
      split <;> omega
    refine ⟨fun σ H' => H' = H ∧ ∃ ch at_ ot : Int, 0 ≤ at_ ∧ σ = [some (.ref l), some (.int c), some (.ref o), some (.int ch), some (.int at_), some (.int ot), none, none, none, none], ⟨_, rfl, _, _, rfl, rfl, ⟨by decide, by decide⟩, .inl ⟨_, rfl, rfl, _, _, _, ?_, rfl⟩⟩, ?_⟩
    · refine Int.emod_nonneg _ ?_
      split <;> omega
    rintro σ H' ⟨rfl, ch, at_, ot, a0, rfl⟩
    obtain ⟨x1, e1, t1, n1⟩ := cutV_vls ls none (some at_)
    obtain ⟨x2, e2, t2, n2⟩ := cutV_vls ls (some (at_ + 1)) none
    obtain ⟨x3, e3, t3, n3⟩ := cutV_vls ls none (some (at_ + 1))
    obtain ⟨x4, e4, t4, n4⟩ := cutV_vls ls (some at_) none
    obtain ⟨x5, e5, t5, n5⟩ := cutV_vls ls (some at_) (some (at_ + 1))
    refine ⟨_, rfl, rfl, _, rfl, ite2 (fun c0 => ?_) (fun c0 => ?_)⟩
    · refine ⟨_, rfl, _, rfl, _, rfl, l, _, rfl, SqL.of hl, fun q1 p1 => ⟨_, rfl, _, rfl, _, _, rfl, rfl, _, rfl, l, _, rfl, SqL.of (same_upd p1 _ _ hl), fun q2 p2 => ⟨q1, q2, _, _, rfl, rfl, same_upd p2 _ _ upd_same, upd_same, ?_, fun E nE => ?_⟩⟩⟩
      · rw [e1, e2]
        exact cat_sz (n := 20000) (by omega) (by omega) (by decide)
      · refine k _ E (x1 ++ x2) (sameU (sameU (same_upd p1) p2) nE) ?_ (by rw [tot_app]; omega)
        rw [upd_same, e1, e2, vls_app]
    refine ⟨_, rfl, rfl, _, rfl, ite2 (fun c1 => ?_) (fun c1 => ?_)⟩
    · refine ⟨_, rfl, _, rfl, _, _, rfl, rfl, _, rfl, l, _, rfl, SqL.of hl, fun q1 p1 => ⟨_, rfl, _, rfl, _, rfl, l, _, rfl, SqL.of (same_upd p1 _ _ hl), fun q2 p2 => ⟨q1, q2, _, _, rfl, rfl, same_upd p2 _ _ upd_same, upd_same, ?_, fun E nE => ?_⟩⟩⟩
      · rw [e3, e4]
        exact cat_sz (n := 20000) (by omega) (by omega) (by decide)
      · refine k _ E (x3 ++ x4) (sameU (sameU (same_upd p1) p2) nE) ?_ (by rw [tot_app]; omega)
        rw [upd_same, e3, e4, vls_app]
    refine ⟨_, rfl, rfl, _, rfl, ite2 (fun c2 => ?_) (fun c2 => ?_)⟩
    · refine ⟨_, rfl, _, rfl, _, rfl, l, _, rfl, SqL.of hl, fun q1 p1 => ⟨_, rfl, _, rfl, _, _, rfl, rfl, _, rfl, l, _, rfl, SqL.of (same_upd p1 _ _ hl), fun q2 p2 => ⟨q1, q2, _, _, rfl, rfl, same_upd p2 _ _ upd_same, upd_same, ?_, fun R nR => ?_⟩⟩⟩
      · rw [e1, e2]
        exact cat_sz (n := 20000) (by omega) (by omega) (by decide)
      have S1 : Same H' (upd (upd (upd H' q1 (.lst (cutV (vls ls) none (some at_)))) q2 (.lst (cutV (vls ls) (some (at_ + 1)) none))) R (.lst (cutV (vls ls) none (some at_) ++ cutV (vls ls) (some (at_ + 1)) none))) := sameU (sameU (same_upd p1) p2) nR
      have hR := upd_same (H := upd (upd H' q1 (.lst (cutV (vls ls) none (some at_)))) q2 (.lst (cutV (vls ls) (some (at_ + 1)) none))) (a := R) (o := .lst (cutV (vls ls) none (some at_) ++ cutV (vls ls) (some (at_ + 1)) none))
      generalize upd (upd (upd H' q1 (.lst (cutV (vls ls) none (some at_)))) q2 (.lst (cutV (vls ls) (some (at_ + 1)) none))) R (.lst (cutV (vls ls) none (some at_) ++ cutV (vls ls) (some (at_ + 1)) none)) = H1 at S1 hR
      rw [e1, e2, ← vls_app] at hR
      have tR : tot (x1 ++ x2) ≤ 2 * tot ls := by rw [tot_app]; omega
      generalize x1 ++ x2 = xr at hR tR
      have hl1 := S1 _ _ hl
      refine ⟨_, rfl, .inl ⟨_, rfl, _, rfl, _, _, rfl, .inl (SqL.of hR), _, _, rfl, rfl, _, _, rfl, rfl, (by omega), ?_⟩⟩
      generalize hpl : ot % (((vls xr).length : Int) + 1) = pl
      obtain ⟨x6, e6, t6, n6⟩ := cutV_vls xr none (some pl)
      obtain ⟨x7, e7, t7, n7⟩ := cutV_vls xr (some pl) none
      subst hpl
      refine ⟨_, rfl, _, rfl, _, rfl, R, _, rfl, SqL.of hR, fun q3 p3 => ⟨_, rfl, _, rfl, _, rfl, _, rfl, _, _, rfl, rfl, _, rfl, l, _, rfl, SqL.of (same_upd p3 _ _ hl1), fun q4 p4 => ⟨q3, q4, _, _, rfl, rfl, same_upd p4 _ _ upd_same, upd_same, ?_, fun R2 nR2 => ?_⟩⟩⟩
      · rw [e6, e5]
        exact cat_sz (n := 40000) (by omega) (by omega) (by decide)
      have S2 := sameU (o := .lst (cutV (vls xr) none (some (ot % (((vls xr).length : Int) + 1))) ++ cutV (vls ls) (some at_) (some (at_ + 1)))) (sameU (o := .lst (cutV (vls ls) (some at_) (some (at_ + 1)))) (same_upd (o := .lst (cutV (vls xr) none (some (ot % (((vls xr).length : Int) + 1))))) p3) p4) nR2
      refine ⟨_, rfl, _, rfl, _, rfl, R, _, rfl, SqL.of (S2 _ _ hR), fun q5 p5 => ⟨R2, q5, _, _, rfl, rfl, same_upd p5 _ _ upd_same, upd_same, ?_, fun E nE => ?_⟩⟩
      · rw [e6, e5, e7, ← vls_app]
        exact cat_sz (n := 100000) (by rw [tot_app]; omega) (by omega) (by decide)
      · refine k _ E (x6 ++ x5 ++ x7) (S1.trans (sameU (sameU S2 p5) nE)) ?_ ?_
        · rw [upd_same, e6, e5, e7, ← vls_app, ← vls_app]
        · rw [tot_app, tot_app]
          omega
    have opos : 0 < ((vls odd).length : Int) := by
      rw [vls_len]
      have := List.length_pos_iff.mpr hne
      omega
    obtain ⟨ov, ew, mw⟩ := pick (xs := vls odd) (Int.emod_nonneg ot (show ((vls odd).length : Int) ≠ 0 by omega)) (Int.emod_lt_of_pos ot opos)
    obtain ⟨ow, mo, rfl⟩ : ∃ w ∈ odd, V.str (SX.S w) = ov := List.mem_map.mp mw
    have tw1 := tot_mem mo
    have tw : tot [ow] ≤ 101 := by
      rw [tot_cons]
      show ow.length + 1 + 0 ≤ _
      omega
    refine ⟨_, rfl, rfl, _, rfl, ite2 (fun c3 => ?_) (fun c3 => ?_)⟩
    · refine ⟨_, rfl, _, rfl, _, rfl, l, _, rfl, SqL.of hl, fun q1 p1 => ⟨_, rfl, _, rfl, .inl ⟨_, rfl, _, rfl, _, _, rfl, .inl (SqL.of (same_upd p1 _ _ ho)), _, _, rfl, rfl, opos, _, _, _, _, rfl, rfl, SqL.of (same_upd p1 _ _ ho), ew, (by show 1 ≤ sizeLine; decide), fun q2 p2 => ⟨q1, q2, _, _, rfl, rfl, same_upd p2 _ _ upd_same, upd_same, ?_, fun R nR => ⟨_, rfl, _, rfl, _, _, rfl, rfl, _, rfl, l, _, rfl, SqL.of (sameU (sameU (same_upd p1) p2) nR _ _ hl), fun q3 p3 => ⟨R, q3, _, _, rfl, rfl, same_upd p3 _ _ upd_same, upd_same, ?_, fun E nE => ?_⟩⟩⟩⟩⟩⟩
      · rw [e1]
        exact cat_sz (x := x1) (y := [ow]) (n := 20000) (by omega) (by omega) (by decide)
      · rw [e1, e2, show vls x1 ++ [V.str (SX.S ow)] = vls (x1 ++ [ow]) by rw [vls_app]; rfl]
        exact cat_sz (n := 40000) (by rw [tot_app]; omega) (by omega) (by decide)
      · refine k _ E (x1 ++ [ow] ++ x2) (sameU (sameU (sameU (sameU (same_upd p1) p2) nR) p3) nE) ?_ (by rw [tot_app, tot_app]; omega)
        rw [upd_same, e1, e2, vls_app, vls_app]
        rfl
    refine ⟨_, rfl, rfl, _, rfl, ite2 (fun c4 => ?_) (fun c4 => ?_)⟩
    · refine ⟨_, rfl, _, rfl, _, rfl, l, _, rfl, SqL.of hl, fun q1 p1 => ⟨_, rfl, _, rfl, .inl ⟨_, rfl, _, rfl, _, _, rfl, .inl (SqL.of (same_upd p1 _ _ ho)), _, _, rfl, rfl, opos, _, _, _, _, rfl, rfl, SqL.of (same_upd p1 _ _ ho), ew, (by show 1 ≤ sizeLine; decide), fun q2 p2 => ⟨q1, q2, _, _, rfl, rfl, same_upd p2 _ _ upd_same, upd_same, ?_, fun R nR => ⟨_, rfl, _, rfl, _, rfl, l, _, rfl, SqL.of (sameU (sameU (same_upd p1) p2) nR _ _ hl), fun q3 p3 => ⟨R, q3, _, _, rfl, rfl, same_upd p3 _ _ upd_same, upd_same, ?_, fun E nE => ?_⟩⟩⟩⟩⟩⟩
      · rw [e1]
        exact cat_sz (x := x1) (y := [ow]) (n := 20000) (by omega) (by omega) (by decide)
      · rw [e1, e4, show vls x1 ++ [V.str (SX.S ow)] = vls (x1 ++ [ow]) by rw [vls_app]; rfl]
        exact cat_sz (n := 40000) (by rw [tot_app]; omega) (by omega) (by decide)
      · refine k _ E (x1 ++ [ow] ++ x4) (sameU (sameU (sameU (sameU (same_upd p1) p2) nR) p3) nE) ?_ (by rw [tot_app, tot_app]; omega)
        rw [upd_same, e1, e4, vls_app, vls_app]
        rfl
    refine ⟨_, rfl, rfl, _, rfl, ite2 (fun c5 => ?_) (fun c5 => ?_)⟩
    · refine ⟨_, rfl, (by show 1 ≤ sizeLine; decide), fun q p => ⟨l, q, _, _, rfl, rfl, same_upd p _ _ hl, upd_same, ?_, fun E nE => ?_⟩⟩
      · exact cat_sz (y := [[]]) (n := 20000) (by omega) (by decide) (by decide)
      · refine k _ E (ls ++ [[]]) (sameU (same_upd p) nE) ?_ (by rw [tot_app, show tot [[]] = 1 from rfl]; omega)
        rw [upd_same, vls_app, show Str.ofString "" = SX.S [] by decide +kernel]
        rfl
    refine ⟨_, rfl, rfl, _, rfl, ite2 (fun c6 => ?_) (fun c6 => ?_)⟩
    · refine ⟨_, rfl, _, rfl, _, rfl, l, _, rfl, SqL.of hl, fun q p => k _ q x1 (same_upd p) ?_ (by omega)⟩
      rw [upd_same, e1]
    refine ⟨⟨_, rfl⟩, _, rfl, _, l, ls.map SX.S, rfl, rfl, .inl (SqL.of (by rw [hl, vls_str])), ?_, ?_⟩
    · rw [show Str.ofString "\n" = SX.S [10] by decide +kernel]
      exact join_size ht (by decide)
    rw [show Str.ofString "\n" = SX.S [10] by decide +kernel, SX.join_S]
    have jl := joinL_len 10 ls
    generalize TL.joinL [10] ls = tx at jl
    have hz : (SX.S tx).length ≤ sizeLine := by
      rw [SX.S_len]
      exact Nat.le_of_lt (small_size (by omega))
    have pp : 0 < ((SX.S tx).length : Int) + 1 := by omega
    have pn := Int.emod_nonneg ot (show ((SX.S tx).length : Int) + 1 ≠ 0 by omega)
    have cn := Int.emod_nonneg (ot / 1000) (show (11 : Int) ≠ 0 by decide)
    have cl := Int.emod_lt_of_pos (ot / 1000) (show (0 : Int) < 11 by decide)
    obtain ⟨cc, ec⟩ : ∃ cc, atI (Str.ofString " 0-19,\tep+x").cps.toList (ot / 1000 % 11) = some cc := by
      exact atI_ex cn (by rw [show (Str.ofString " 0-19,\tep+x").cps.toList.length = 11 by decide +kernel]; exact cl)
    refine ⟨_, rfl, .inl ⟨_, rfl, _, rfl, _, rfl, hz, _, _, rfl, rfl, _, _, rfl, rfl, pp, ?_⟩⟩
    refine ⟨fun σ H1 => H1 = H' ∧ ∃ (pl : Int) (y4 : Option V), 0 ≤ pl ∧ σ = [some (.ref l), some (.int c), some (.ref o), some (.int ch), y4, some (.int ot), none, some (.int pl), some (.str (SX.S tx)), some (.str (SX.S [cc]))], ⟨_, rfl, _, _, rfl, rfl, ⟨by decide, by decide⟩, .inl ⟨_, rfl, _, _, rfl, rfl, (by show (0 : Int) < 11; decide), _, _, cc, rfl, rfl, (by decide +kernel), ec, rfl, _, _, pn, rfl⟩⟩, ?_⟩
    rintro σ H1 ⟨rfl, pl, y4, pl0, rfl⟩
    have rest : ∀ u : LL, u.length ≤ 2 * tx.length + 1 → ∀ W, H1 W = none → Q (.ref W) (upd H1 W (.lst (vls (linesL u)))) := fun u hu W nW => k _ W (linesL u) (same_upd nW) upd_same (by have := tot_lines u; omega)
    refine ⟨_, rfl, rfl, _, rfl, ite2 (fun c7 => ?_) (fun c7 => ?_)⟩
    · refine ⟨_, rfl, _, rfl, _, rfl, SX.S tx, rfl, hz, ?_⟩
      rw [SX.slice_to pl0]
      refine ⟨_, rfl, _, rfl, _, _, rfl, rfl, _, rfl, SX.S tx, rfl, hz, ?_⟩
      rw [SX.slice_from (show 0 ≤ pl + 1 by omega)]
      refine ⟨_, _, rfl, rfl, str_sz rfl rfl (by rw [List.length_take, List.length_drop]; omega), ?_⟩
      rw [SX.S_cat]
      refine ⟨⟨_, rfl⟩, _, _, rfl, rfl, by decide, split_size (by rw [List.length_append, List.length_take, List.length_drop]; omega), fun W nW => ?_⟩
      rw [split_vls _ 10 (by decide)]
      exact rest _ (by rw [List.length_append, List.length_take, List.length_drop]; omega) W nW
    · refine ⟨_, rfl, _, rfl, _, rfl, SX.S tx, rfl, hz, ?_⟩
      rw [SX.slice_to pl0]
      refine ⟨_, rfl, _, _, rfl, rfl, str_sz rfl rfl (by rw [List.length_take]; simp; omega), ?_⟩
      rw [SX.S_cat]
      have mn := Int.emod_nonneg (ot / 11000) (show (2 : Int) ≠ 0 by decide)
      refine ⟨_, rfl, _, rfl, _, rfl, _, _, rfl, rfl, ⟨by decide, by decide⟩, .inl ⟨_, rfl, _, _, rfl, rfl, (by show (0 : Int) < 2; decide), _, _, rfl, rfl, _, rfl, SX.S tx, rfl, hz, ?_⟩⟩
      rw [SX.slice_from (show 0 ≤ pl + ot / 11000 % 2 by omega)]
      refine ⟨_, _, rfl, rfl, str_sz rfl rfl (by rw [List.length_append, List.length_take, List.length_drop]; simp; omega), ?_⟩
      rw [SX.S_cat]
      refine ⟨⟨_, rfl⟩, _, _, rfl, rfl, by decide, split_size (by rw [List.length_append, List.length_append, List.length_take, List.length_drop]; simp; omega), fun W nW => ?_⟩
      rw [split_vls _ 10 (by decide)]
      exact rest _ (by rw [List.length_append, List.length_append, List.length_take, List.length_drop]; simp; omega) W nW
end
end KW
namespace KW
open PySem PySem.Spec PyProof.Rows L2 KG KT
/-! ### the data of the points, for == -/
def ptD (p : P2) : PyData := .tuple [.int p.1, .int p.2]
theorem dp_pts {K : PySem.W.Frag} {H : Hp} : ∀ {vs : List V} {pts : List P2}, Paired (IsPt H) vs pts → DpAll K H vs (pts.map ptD)
  | _, _, .nil => .nil
  | _, _, .cons ⟨t, e, h⟩ r => by
    subst e
    exact .cons (.tup (SqT.of h) (.cons (.int _) (.cons (.int _) .nil))) (dp_pts r)
theorem pts_lay : ∀ pts : List P2, PyData.canLayAll0 (pts.map ptD) = true ∧ PyData.depthAll (pts.map ptD) ≤ 1
  | [] => ⟨rfl, Nat.zero_le _⟩
  | p :: r => by
    obtain ⟨h1, h2⟩ := pts_lay r
    refine ⟨?_, ?_⟩
    · show (PyData.canLay0 (ptD p) && PyData.canLayAll0 (r.map ptD)) = true
      rw [h1]
      rfl
    · show max (PyData.depth (ptD p)) (PyData.depthAll (r.map ptD)) ≤ 1
      have : PyData.depth (ptD p) = 1 := rfl
      omega
theorem pts_shaped (pts : List P2) : SeqAt.shaped (.list (pts.map ptD)) = true := by
  obtain ⟨h1, h2⟩ := pts_lay pts
  have e1 : PyData.canLay0 (.list (pts.map ptD)) = true := h1
  have e2 : PyData.depth (.list (pts.map ptD)) ≤ 64 := by
    show PyData.depthAll (pts.map ptD) + 1 ≤ 64
    omega
  unfold SeqAt.shaped
  rw [e1, decide_eq_true e2]
  rfl
theorem nums_pc {ps : List Pc} {rs : List L3} (N : NumsOK ps rs) : (∀ p ∈ ps, PcN p) ∧ ∀ r ∈ rs, RsN r := by
  refine ⟨fun p hp => ?_, fun r hr => ?_⟩
  · obtain ⟨a, b, c, d, e, f⟩ := N.p p hp
    exact ⟨a, e, lg_big b, lg_big c, lg_big d, lg_big f⟩
  · obtain ⟨a, b, c, d, e, f⟩ := N.r r hr
    exact ⟨⟨a, lg_big b⟩, ⟨c, lg_big d⟩, ⟨e, lg_big f⟩⟩
theorem judged_len {pts : List P2} {e : Int} {ps : List Pc} {rs : List L3} (J : Judged pts e ps rs) : rs.length + 1 = ps.length ∨ (ps = [] ∧ rs = []) := by
  rcases J with ⟨_, a, b⟩ | ⟨_, J⟩
  · exact .inr ⟨a, b⟩
  · exact .inl J.len
/-- an audit of a written cutting that is judged right -/
theorem audit_written {pts : List P2} {e : Int} {ps : List Pc} {rs : List L3} {v : V} {m : Nat} (asc : Asc pts) (J : Judged pts e ps rs) (N : NumsOK ps rs) (M : IsLeast pts e pts.length m) (h : AuditV pts e (TL.joinL [10] (writeW ps rs)) v) : v = .int (m : Nat) := by
  obtain ⟨h1, h2⟩ := nums_pc N
  have rd := read_write (judged_len J) h1 h2
  rcases h with ⟨_, h⟩ | ⟨ps', rs', g, J', rfl⟩
  · exact absurd J (h _ _ rd)
  · rw [IsLeast.unique (judged_least asc J') M]
/-- an audit of any text -/
theorem audit_any {pts : List P2} {e : Int} {t : LL} {v : V} {m : Nat} (asc : Asc pts) (M : IsLeast pts e pts.length m) (h : AuditV pts e t v) : v = .non ∨ v = .int (m : Nat) := by
  rcases h with ⟨h, _⟩ | ⟨ps', rs', g, J', rfl⟩
  · exact .inl h
  · rw [IsLeast.unique (judged_least asc J') M]
    exact .inr rfl
def oddS : List Str := ["", "piece 0 0 0 1", "reason 0 1 2", "cutting", "piece 0 0 0 0"]
def odd : List LL := oddS.map TL.tl
theorem odd_vls : vls odd = oddS.map V.str := by
  unfold vls odd
  rw [List.map_map]
  exact List.map_congr_left fun x _ => congrArg V.str (SX.S_tl x)
theorem odd_tot : tot odd ≤ 100 := by decide +kernel
theorem odd_ne : odd ≠ [] := by decide +kernel
def bnd : Nat → Nat
  | 0 => 3700
  | 1 => 3700
  | 2 => 18700
  | _ => 93700
theorem bnd_le (k : Nat) : bnd k ≤ 93700 := by
  unfold bnd
  split <;> omega
theorem tot_write {ps : List Pc} {rs : List L3} (N : NumsOK ps rs) : tot (writeW ps rs) ≤ 8 + 402 * ps.length := by
  have := tot_body N
  unfold writeW
  rw [tot_cons]
  simp only [cuttingC, List.length_cons, List.length_nil]
  omega
section
variable {P : Program} {w : World} {K : PySem.W.Frag} {mg : Str → Option Value} {base : Heap} {CF CC CI fI : Addr}
def spLaw (K : PySem.W.Frag) : Sp := fun vs H Q _ => ∃ (s : Addr) (ns : List Int), vs = [.ref s] ∧ SqL K H s (ns.map V.int) ∧ ∀ H', Q (.bl true) H'
abbrev s_law : Stmt := topS 50
abbrev N_law : List Str := ["_law_script", "_law_points_here", "_law_error_here", "_law_least_here", "_law_pieces", "_law_reasons", "_law_given", "_law_other", "_law_lines_here", "_law_odd", "_law_k", "_law_text", "_law_actual"]
theorem sc_law : FnScope N_law ["_law_script"] (defScope s_law) := ⟨rfl, rfl, rfl, by decide +kernel, rfl, by decide +kernel, by decide +kernel⟩
theorem bd_law : BindsN "law" "law" s_law ["_law_script"] := fun _ _ _ _ _ _ us hl => match us, hl with | [_], _ => rfl
theorem bd_ok_law (T : Txt mg) (c_l_points : Cal P w K mg base 2 "_law_points" (spPoints K) []) (c_l_error : Cal P w K mg base 2 "_law_error" (spError K) []) (c_l_least : Cal P w K mg base 3 "_law_least" spLeast []) (c_l_right : Cal P w K mg base 4 "_law_right" spRight []) (c_l_cell : Cal P w K mg base 1 "_law_cell" (spCell K) [])
    (c_audit : Cal P w K mg base 5 "audit" spAudit []) (c_l_lines : Cal P w K mg base 1 "_law_lines" spLinesL []) (c_write_cutting : Cal P w K mg base 2 "write_cutting" (spWrite CC) []) (c_cut : Cal P w K mg base 5 "cut" (spCut CC) []) (c_l_changed : Cal P w K mg base 1 "_law_changed" spChanged []) (c_l_due : Cal P w K mg base 5 "_law_due" spAudit []) :
    BodyOk P w K mg base CX0 N_law "law" s_law 5 (spLaw K) := by
  intro f cdv A outer s H vs Q E hr h
  obtain ⟨sA, ns, rfl, hS, k⟩ := h
  refine ⟨_, (pss_cons (ps_set (i := 1) sc_law.nd rfl (.inl rfl) (C8.pe_c c_l_points hr (by decide) (by rfl) (pa_cons (pv 0) (pa_cons pe_int (pa_cons pe_int pa_nil)))))
      (pss_cons (ps_set (i := 2) sc_law.nd rfl (.inl rfl) (C8.pe_c c_l_error hr (by decide) (by rfl) (pa_cons (pv 0) (pa_cons pe_int (pa_cons (pv 1) pa_nil)))))
      (pss_cons (ps_set (i := 3) sc_law.nd rfl (.inl rfl) (C8.pe_c c_l_least hr (by decide) (by rfl) (pa_cons (pv 1) (pa_cons (pv 2) pa_nil))))
      (pss_cons (ps_asg (C8.pe_c c_l_right hr (by decide) (by rfl) (pa_cons (pv 1) (pa_cons (pv 2) (pa_cons (pe_cmpR op_eq (pe_op op_mod (pe_callTy call_int1 (by rfl) T.int (by decide +kernel) (pa_cons (C8.pe_c c_l_cell hr (by decide) (by rfl) (pa_cons (pv 0) (pa_cons pe_int pa_nil))) pa_nil)) pe_int) pe_int (nomark _)) pa_nil)))) (pg_tup (by rfl) (pgs_cons (pg_name (i := 4) sc_law.nd rfl (.inl rfl)) (pgs_cons (pg_name (i := 5) sc_law.nd rfl (.inl rfl)) pgs_nil))))
      (pss_cons (ps_set (i := 6) sc_law.nd rfl (.inl rfl) (pe_callTy call_list_of (by rfl) T.lst (by decide +kernel) (pa_cons (pv 1) pa_nil)))
      (pss_cons (ps_if (pt_cmpR op_ne (C8.pe_c c_audit hr (by decide) (by rfl) (pa_cons (pv 6) (pa_cons (pv 2) (pa_cons (pe_join pe_str (C8.pe_c c_l_lines hr (by decide) (by rfl) (pa_cons (pv 4) (pa_cons (pv 5) pa_nil)))) pa_nil)))) (pv 3) (nomark _)) (pss_one (ps_ret pe_bl)) pss_nil)
      (pss_cons (ps_if (pt_cmpR op_ne (C8.pe_c c_audit hr (by decide) (by rfl) (pa_cons (pe_callTy call_list_of (by rfl) T.lst (by decide +kernel) (pa_cons (pv 1) pa_nil)) (pa_cons (pv 2) (pa_cons (C8.pe_c c_write_cutting hr (by decide) (by rfl) (pa_cons (C8.pe_c c_cut hr (by decide) (by rfl) (pa_cons (pe_callTy call_list_of (by rfl) T.lst (by decide +kernel) (pa_cons (pv 1) pa_nil)) (pa_cons (pv 2) pa_nil))) pa_nil)) pa_nil)))) (pv 3) (nomark _)) (pss_one (ps_ret pe_bl)) pss_nil)
      (pss_cons (ps_set (i := 7) sc_law.nd rfl (.inl rfl) (pe_op op_mod (pe_callTy call_int1 (by rfl) T.int (by decide +kernel) (pa_cons (C8.pe_c c_l_cell hr (by decide) (by rfl) (pa_cons (pv 0) (pa_cons pe_int pa_nil))) pa_nil)) pe_int))
      (pss_cons (ps_asg (C8.pe_c c_l_right hr (by decide) (by rfl) (pa_cons (pv 1) (pa_cons (pv 7) (pa_cons pe_bl pa_nil)))) (pg_tup (by rfl) (pgs_cons (pg_name (i := 4) sc_law.nd rfl (.inl rfl)) (pgs_cons (pg_name (i := 5) sc_law.nd rfl (.inl rfl)) pgs_nil))))
      (pss_cons (ps_set (i := 8) sc_law.nd rfl (.inl rfl) (C8.pe_c c_l_lines hr (by decide) (by rfl) (pa_cons (pv 4) (pa_cons (pv 5) pa_nil))))
      (pss_cons (ps_set (i := 9) sc_law.nd rfl (.inl rfl) (pe_lst (pa_cons pe_str (pa_cons pe_str (pa_cons pe_str (pa_cons pe_str (pa_cons pe_str pa_nil)))))))
      (pss_cons (ps_for PassesOwn.never rfl (pi_range1 rfl T.range (pa_cons pe_int pa_nil)) (pg_name (i := 10) sc_law.nd rfl (.inl rfl)) (C8.pss_cut (ps_if (pt_cmpR op_gt (pv 10) pe_int (nomark _)) (pss_one (ps_set (i := 8) sc_law.nd rfl (.inl rfl) (C8.pe_c c_l_changed hr (by decide) (by rfl) (pa_cons (pv 8) (pa_cons (C8.pe_c c_l_cell hr (by decide) (by rfl) (pa_cons (pv 0) (pa_cons (pe_op op_add pe_int (pv 10)) pa_nil))) (pa_cons (pv 9) pa_nil)))))) pss_nil)
        (pss_cons (ps_set (i := 11) sc_law.nd rfl (.inl rfl) (pe_join pe_str (pv 8)))
        (pss_cons (ps_set (i := 12) sc_law.nd rfl (.inl rfl) (C8.pe_c c_audit hr (by decide) (by rfl) (pa_cons (pv 6) (pa_cons (pv 2) (pa_cons (pv 11) pa_nil)))))
        (pss_cons (ps_if (PW.pt (pw_and (pt_cmpR op_notN (pv 12) pe_non (nomark _)) (pw_and1 (pt_cmpR op_ne (pv 12) (pv 3) (nomark _))))) (pss_one (ps_ret pe_bl)) pss_nil)
        (pss_one (ps_if (pt_cmpR op_ne (pv 12) (C8.pe_c c_l_due hr (by decide) (by rfl) (pa_cons (pv 1) (pa_cons (pv 2) (pa_cons (pv 11) pa_nil)))) (nomark _)) (pss_one (ps_ret pe_bl)) pss_nil)))))))
      (pss_one (ps_ret (pe_cmpR (op_eqD hr.units) (pv 6) (pv 1) (nomark _)))))))))))))))), ?_⟩
  refine ⟨_, rfl, sA, ns, _, _, rfl, hS, by decide, by decide, by decide, fun H1 aP pts S1 hA asc smy hlen => ?_⟩
  have hlen : pts.length ≤ 9 := by omega
  have sm : ∀ q ∈ pts, SmP q := fun q hq => (smy q hq).1
  refine ⟨_, rfl, _, rfl, sA, ns, _, aP, pts, rfl, S1.seq hS, by decide, hA, smy, by omega, fun H2 e S2 he se => ?_⟩
  have hA2 := hA.same IsPt.mono S2
  refine ⟨_, rfl, _, rfl, aP, pts, e, rfl, hA2, sm, se, by omega, fun H3 m S3 M => ?_⟩
  have S13 := S2.trans S3
  have hA3 := hA2.same IsPt.mono S3
  have hS3 := S13.seq (S1.seq hS)
  refine ⟨_, rfl, _, rfl, _, rfl, sA, ns, _, rfl, hS3, by decide, fun c => .inl ⟨_, rfl, _, _, rfl, rfl, (by show (0 : Int) < 2; decide), rfl, ?_⟩⟩
  refine ⟨aP, pts, e, _, rfl, hA3, sm, se, he, by omega, asc, fun H4 t l1 l2 ps rs S4 ht hl1 hl2 J N lps lrs ljd => ?_⟩
  have hA4 := hA3.same IsPt.mono S4
  obtain ⟨vs, ha, hvs⟩ := id hA4
  refine ⟨t, _, rfl, SqT.of ht, rfl, _, _, rfl, _, _, rfl, rfl, ?_⟩
  refine ⟨_, rfl, _, _, rfl, .inl (SqL.of ha), fun g ng => ?_⟩
  have S5 := same_upd (o := .lst vs) ng
  have hg5 := upd_same (H := H4) (a := g) (o := .lst vs)
  generalize upd H4 g (.lst vs) = H5 at S5 hg5
  have hA5 := hA4.same IsPt.mono S5
  have hG5 : LsOf IsPt H5 g pts := ⟨vs, hg5, pairedSame IsPt.mono (sameT S5) hvs⟩
  have tw := tot_write N
  refine ⟨_, rfl, _, rfl, ⟨_, rfl⟩, _, rfl, _, rfl, l1, l2, ps, rs, rfl, hl1.same IsPc.mono S5, hl2.same IsTri.mono S5, N, by omega, lrs, fun H6 L S6 hL6 => ?_⟩
  refine ⟨_, L, (writeW ps rs).map SX.S, rfl, rfl, .inl (SqL.of (by rw [hL6, vls_str])), ?_, ?_⟩
  · rw [show Str.ofString "\n" = SX.S [10] by decide +kernel]
    exact join_size (n := 10000) (by omega) (by decide)
  rw [show Str.ofString "\n" = SX.S [10] by decide +kernel, SX.join_S]
  have jl := joinL_len 10 (writeW ps rs)
  refine ⟨g, pts, e, _, rfl, hG5.same IsPt.mono S6, sm, se, by omega, by omega, fun H7 v S7 av => ?_⟩
  have ev := audit_written asc J N M av
  subst ev
  refine ⟨_, rfl, rfl, _, rfl, ite2 (fun c1 => by simp at c1) (fun _ => ?_)⟩
  have S47 := (S5.trans S6).trans S7
  obtain ⟨vs7, ha7, hvs7⟩ := hA4.same IsPt.mono S47
  refine ⟨_, rfl, _, _, rfl, .inl (SqL.of ha7), fun g2 ng2 => ⟨_, rfl, _, rfl, _, _, rfl, .inl (SqL.of (same_upd ng2 _ _ ha7)), fun g3 ng3 => ⟨_, rfl, ?_⟩⟩⟩
  have S8 := (same_upd (o := .lst vs7) ng2).trans (same_upd (o := .lst vs7) ng3)
  have hg2 : LsOf IsPt (upd (upd H7 g2 (.lst vs7)) g3 (.lst vs7)) g2 pts := ⟨vs7, same_upd ng3 _ _ upd_same, pairedSame IsPt.mono (sameT S8) hvs7⟩
  have hg3 : LsOf IsPt (upd (upd H7 g2 (.lst vs7)) g3 (.lst vs7)) g3 pts := ⟨vs7, upd_same, pairedSame IsPt.mono (sameT S8) hvs7⟩
  refine ⟨g3, pts, e, rfl, hg3, ⟨asc, sm, se, he, by omega⟩, fun H9 cu ps2 rs2 S9 hC J2 N2 => ?_⟩
  have lm : ps2.length = ps.length := (judged_least asc J2).unique (judged_least asc J)
  have tw2 := tot_write N2
  refine ⟨cu, ps2, rs2, rfl, hC, N2, by omega, ?_, fun H10 S10 => ?_⟩
  · rcases judged_len J2 with h | ⟨h1, h2⟩
    · omega
    · rw [h1, h2]
      exact Nat.le_refl _
  have jl2 := joinL_len 10 (writeW ps2 rs2)
  refine ⟨g2, pts, e, _, rfl, (hg2.same IsPt.mono S9).same IsPt.mono S10, sm, se, by omega, by omega, fun H11 v S11 av => ?_⟩
  have ev := audit_written asc J2 N2 M av
  subst ev
  refine ⟨_, rfl, rfl, _, rfl, ite2 (fun c1 => by simp at c1) (fun _ => ?_)⟩
  have S7b : Same H7 H11 := ((S8.trans S9).trans S10).trans S11
  have S4b := S47.trans S7b
  have hA11 := hA4.same IsPt.mono S4b
  have hS11 := S4b.seq (S4.seq hS3)
  refine ⟨_, rfl, sA, ns, _, rfl, hS11, by decide, fun c => .inl ⟨_, rfl, _, _, rfl, rfl, (by show (0 : Int) < 8; decide), ?_⟩⟩
  have o0 := Int.emod_nonneg c (show (8 : Int) ≠ 0 by decide)
  have o1 := Int.emod_lt_of_pos c (show (0 : Int) < 8 by decide)
  refine ⟨_, rfl, _, rfl, aP, pts, c % 8, false, rfl, hA11, sm, ⟨by omega, by omega⟩, o0, by omega, asc, fun H12 t3 l3 l4 ps3 rs3 S12 ht3 hl3 hl4 J3 N3 lps3 lrs3 ljd3 => ?_⟩
  refine ⟨t3, _, rfl, SqT.of ht3, rfl, _, _, rfl, _, _, rfl, rfl, ?_⟩
  have tw3 := tot_write N3
  refine ⟨_, rfl, _, rfl, l3, l4, ps3, rs3, rfl, hl3, hl4, N3, by omega, lrs3, fun H13 L3 S13b hL13 => ?_⟩
  refine ⟨(by show 5 ≤ sizeLine; decide), fun oA noA => ?_⟩
  have SE := same_upd (o := .lst (oddS.map V.str)) noA
  have hO : (upd H13 oA (.lst (oddS.map V.str))) oA = some (.lst (vls odd)) := by rw [upd_same, odd_vls]
  have hL14 := SE _ _ hL13
  have S4c := ((S4b.trans S12).trans S13b).trans SE
  have S5c : Same H5 (upd H13 oA (.lst (oddS.map V.str))) := ((((S6.trans S7).trans S7b).trans S12).trans S13b).trans SE
  have hS14 := S4c.seq (S4.seq hS3)
  have hA14 := hA4.same IsPt.mono S4c
  have hG14 := hG5.same IsPt.mono S5c
  change tSeq _ _ _ _ (upd H13 oA (.lst (oddS.map V.str)))
  generalize upd H13 oA (.lst (oddS.map V.str)) = H14 at hO hL14 hS14 hA14 hG14 ⊢
  refine ⟨3, rfl, (by decide), (by decide), for_range (lo := 0) (n := 3) (fun i σ H' => Same H14 H' ∧ ∃ (L : Addr) (ls : List LL) (y10 y11 y12 : Option V), σ = [some (.ref sA), some (.ref aP), some (.int e), some (.int (m : Nat)), some (.ref l3), some (.ref l4), some (.ref g), some (.int (c % 8)), some (.ref L), some (.ref oA), y10, y11, y12] ∧ H' L = some (.lst (vls ls)) ∧ tot ls ≤ bnd i)
    ⟨Same.refl H14, L3, writeW ps3 rs3, _, _, _, rfl, hL14, by show _ ≤ 3700; omega⟩ ?_ ?_⟩
  · rintro i σ H15 hi ⟨S15, L, ls, y10, y11, y12, rfl, hL, tl⟩
    refine ⟨fun σ H' => Same H14 H' ∧ ∃ (L : Addr) (ls : List LL) (y11 y12 : Option V), σ = [some (.ref sA), some (.ref aP), some (.int e), some (.int (m : Nat)), some (.ref l3), some (.ref l4), some (.ref g), some (.int (c % 8)), some (.ref L), some (.ref oA), some (.int (0 + (i : Int))), y11, y12] ∧ H' L = some (.lst (vls ls)) ∧ tot ls ≤ bnd (i + 1),
      ⟨_, rfl, _, _, rfl, rfl, _, rfl, ite2 (fun c1 => ?_) (fun c1 => ?_)⟩, ?_⟩
    · have d1 : 0 < i := by
        have := of_decide_eq_true c1
        omega
      have t20 : tot ls ≤ 20000 ∧ ∀ n, n ≤ 5 * tot ls + 200 → n ≤ bnd (i + 1) := by
        have : i = 1 ∨ i = 2 := by omega
        rcases this with rfl | rfl
        · have : tot ls ≤ 3700 := tl
          exact ⟨by omega, fun n hn => by show n ≤ 18700; omega⟩
        · have : tot ls ≤ 18700 := tl
          exact ⟨by omega, fun n hn => by show n ≤ 93700; omega⟩
      exact ⟨_, rfl, _, rfl, _, rfl, _, _, rfl, rfl, sA, ns, _, rfl, S15.seq hS14, (by omega), fun c9 => ⟨_, rfl, L, c9, oA, ls, odd, rfl, hL, S15 _ _ hO, t20.1, odd_tot, odd_ne, fun H16 r ls' S16 hr' tr => ⟨S15.trans S16, r, ls', _, _, rfl, hr', t20.2 _ tr⟩⟩⟩
    · have d1 : i = 0 := by
        have : ¬ (0 : Int) < 0 + (i : Int) := fun z => c1 (decide_eq_true z)
        omega
      subst d1
      exact ⟨S15, L, ls, _, _, rfl, hL, tl⟩
    rintro σ H16 ⟨S16, L, ls, y11, y12, rfl, hL, tl⟩
    have bl := bnd_le (i + 1)
    refine ⟨⟨_, rfl⟩, _, rfl, _, L, ls.map SX.S, rfl, rfl, .inl (SqL.of (by rw [hL, vls_str])), ?_, ?_⟩
    · exact join_size (n := 95000) (by omega) (by decide)
    rw [SX.join_S]
    have jl := joinL_len 10 ls
    refine ⟨_, rfl, _, rfl, _, rfl, g, pts, e, _, rfl, hG14.same IsPt.mono S16, sm, se, by omega, by omega, fun H17 v S17 av => ?_⟩
    have hA17 := hA14.same IsPt.mono (S16.trans S17)
    rcases audit_any asc M av with rfl | rfl
    · refine ⟨_, rfl, rfl, _, rfl, ite2 (fun c => by simp at c) (fun _ => ?_)⟩
      refine ⟨_, rfl, _, rfl, _, rfl, _, rfl, aP, pts, e, _, rfl, hA17, sm, se, by omega, by omega, fun H18 u S18 au => ?_⟩
      have eu := au.det av
      subst eu
      exact ⟨rfl, _, rfl, ite2 (fun c => by simp at c) (fun _ => ⟨(S16.trans S17).trans S18, L, ls, _, _, _, rfl, S18 _ _ (S17 _ _ hL), tl⟩)⟩
    · refine ⟨_, rfl, rfl, _, rfl, ite2 (fun _ => ?_) (fun c => by simp at c)⟩
      refine ⟨_, rfl, _, rfl, rfl, _, rfl, ite2 (fun c => by simp at c) (fun _ => ?_)⟩
      refine ⟨_, rfl, _, rfl, _, rfl, _, rfl, aP, pts, e, _, rfl, hA17, sm, se, by omega, by omega, fun H18 u S18 au => ?_⟩
      have eu := au.det av
      subst eu
      exact ⟨rfl, _, rfl, ite2 (fun c => by simp at c) (fun _ => ⟨(S16.trans S17).trans S18, L, ls, _, _, _, rfl, S18 _ _ (S17 _ _ hL), tl⟩)⟩
  · rintro σ H15 ⟨S15, L, ls, y10, y11, y12, rfl, hL, tl⟩
    obtain ⟨v1, h1, p1⟩ := hG14.same IsPt.mono S15
    obtain ⟨v2, h2, p2⟩ := hA14.same IsPt.mono S15
    refine ⟨_, rfl, _, rfl, .list (pts.map ptD), .list (pts.map ptD), .lst (SqL.of h1) (dp_pts p1), .lst (SqL.of h2) (dp_pts p2), pts_shaped pts, pts_shaped pts, ?_⟩
    rw [SeqAt.eqv_refl _ (SeqAt.canLay_of_shaped (pts_shaped pts))]
    exact k _
end
end KW
set_option maxHeartbeats 0
namespace KH
open PySem PySem.Spec PyProof.Rows L2 KW
def d_common_divisor : He.DefD := ⟨("common_divisor", none), "common_divisor", "common_divisor", defArgs s_common_divisor, defBody s_common_divisor, defScope s_common_divisor, [], []⟩
def d_is_near : He.DefD := ⟨("is_near", none), "is_near", "is_near", defArgs s_is_near, defBody s_is_near, defScope s_is_near, [], []⟩
def d_line_fits : He.DefD := ⟨("line_fits", none), "line_fits", "line_fits", defArgs s_line_fits, defBody s_line_fits, defScope s_line_fits, [], []⟩
def d_three_fit : He.DefD := ⟨("three_fit", none), "three_fit", "three_fit", defArgs s_three_fit, defBody s_three_fit, defScope s_three_fit, [], []⟩
def d_fraction : He.DefD := ⟨("fraction", none), "fraction", "fraction", defArgs s_fraction, defBody s_fraction, defScope s_fraction, [], []⟩
def d_slope_between : He.DefD := ⟨("slope_between", none), "slope_between", "slope_between", defArgs s_slope_between, defBody s_slope_between, defScope s_slope_between, [], []⟩
def d_line_with_slope : He.DefD := ⟨("line_with_slope", none), "line_with_slope", "line_with_slope", defArgs s_line_with_slope, defBody s_line_with_slope, defScope s_line_with_slope, [], []⟩
def d_turn : He.DefD := ⟨("turn", none), "turn", "turn", defArgs s_turn, defBody s_turn, defScope s_turn, [], []⟩
def d_rise_over : He.DefD := ⟨("rise_over", none), "rise_over", "rise_over", defArgs s_rise_over, defBody s_rise_over, defScope s_rise_over, [], []⟩
def d_is_below : He.DefD := ⟨("is_below", none), "is_below", "is_below", defArgs s_is_below, defBody s_is_below, defScope s_is_below, [], []⟩
def d_Fitter_init : He.DefD := ⟨("Fitter", some "__init__"), "__init__", "Fitter.__init__", defArgs s_Fitter_init, defBody s_Fitter_init, defScope s_Fitter_init, [], []⟩
def d_Fitter_conflict : He.DefD := ⟨("Fitter", some "conflict"), "conflict", "Fitter.conflict", defArgs s_Fitter_conflict, defBody s_Fitter_conflict, defScope s_Fitter_conflict, [], []⟩
def d_Fitter_add : He.DefD := ⟨("Fitter", some "add"), "add", "Fitter.add", defArgs s_Fitter_add, defBody s_Fitter_add, defScope s_Fitter_add, [], []⟩
def d_Fitter_add_corners : He.DefD := ⟨("Fitter", some "add_corners"), "add_corners", "Fitter.add_corners", defArgs s_Fitter_add_corners, defBody s_Fitter_add_corners, defScope s_Fitter_add_corners, [], []⟩
def d_Fitter_lower_steep : He.DefD := ⟨("Fitter", some "lower_steep"), "lower_steep", "Fitter.lower_steep", defArgs s_Fitter_lower_steep, defBody s_Fitter_lower_steep, defScope s_Fitter_lower_steep, [], []⟩
def d_Fitter_raise_flat : He.DefD := ⟨("Fitter", some "raise_flat"), "raise_flat", "Fitter.raise_flat", defArgs s_Fitter_raise_flat, defBody s_Fitter_raise_flat, defScope s_Fitter_raise_flat, [], []⟩
def d_Fitter_line : He.DefD := ⟨("Fitter", some "line"), "line", "Fitter.line", defArgs s_Fitter_line, defBody s_Fitter_line, defScope s_Fitter_line, [], []⟩
def d_Cutting_init : He.DefD := ⟨("Cutting", some "__init__"), "__init__", "Cutting.__init__", defArgs s_Cutting_init, defBody s_Cutting_init, defScope s_Cutting_init, [], []⟩
def d_cut : He.DefD := ⟨("cut", none), "cut", "cut", defArgs s_cut, defBody s_cut, defScope s_cut, [], []⟩
def d_are_starts : He.DefD := ⟨("are_starts", none), "are_starts", "are_starts", defArgs s_are_starts, defBody s_are_starts, defScope s_are_starts, [], []⟩
def d_is_reason : He.DefD := ⟨("is_reason", none), "is_reason", "is_reason", defArgs s_is_reason, defBody s_is_reason, defScope s_is_reason, [], []⟩
def d_judge : He.DefD := ⟨("judge", none), "judge", "judge", defArgs s_judge, defBody s_judge, defScope s_judge, [], []⟩
def d_piece_line : He.DefD := ⟨("piece_line", none), "piece_line", "piece_line", defArgs s_piece_line, defBody s_piece_line, defScope s_piece_line, [], []⟩
def d_write_cutting : He.DefD := ⟨("write_cutting", none), "write_cutting", "write_cutting", defArgs s_write_cutting, defBody s_write_cutting, defScope s_write_cutting, [], []⟩
def d_is_plain : He.DefD := ⟨("is_plain", none), "is_plain", "is_plain", defArgs s_is_plain, defBody s_is_plain, defScope s_is_plain, [], []⟩
def d_is_signed : He.DefD := ⟨("is_signed", none), "is_signed", "is_signed", defArgs s_is_signed, defBody s_is_signed, defScope s_is_signed, [], []⟩
def d_piece_in : He.DefD := ⟨("piece_in", none), "piece_in", "piece_in", defArgs s_piece_in, defBody s_piece_in, defScope s_piece_in, [], []⟩
def d_reason_in : He.DefD := ⟨("reason_in", none), "reason_in", "reason_in", defArgs s_reason_in, defBody s_reason_in, defScope s_reason_in, [], []⟩
def d_read_cutting : He.DefD := ⟨("read_cutting", none), "read_cutting", "read_cutting", defArgs s_read_cutting, defBody s_read_cutting, defScope s_read_cutting, [], []⟩
def d_audit : He.DefD := ⟨("audit", none), "audit", "audit", defArgs s_audit, defBody s_audit, defScope s_audit, [], []⟩
def d_l_cell : He.DefD := ⟨("_law_cell", none), "_law_cell", "_law_cell", defArgs s_l_cell, defBody s_l_cell, defScope s_l_cell, [], []⟩
def d_l_digits : He.DefD := ⟨("_law_digits", none), "_law_digits", "_law_digits", defArgs s_l_digits, defBody s_l_digits, defScope s_l_digits, [], []⟩
def d_l_points : He.DefD := ⟨("_law_points", none), "_law_points", "_law_points", defArgs s_l_points, defBody s_l_points, defScope s_l_points, [], []⟩
def d_l_error : He.DefD := ⟨("_law_error", none), "_law_error", "_law_error", defArgs s_l_error, defBody s_l_error, defScope s_l_error, [], []⟩
def d_l_three : He.DefD := ⟨("_law_three", none), "_law_three", "_law_three", defArgs s_l_three, defBody s_l_three, defScope s_l_three, [], []⟩
def d_l_fits : He.DefD := ⟨("_law_fits", none), "_law_fits", "_law_fits", defArgs s_l_fits, defBody s_l_fits, defScope s_l_fits, [], []⟩
def d_l_starts : He.DefD := ⟨("_law_starts", none), "_law_starts", "_law_starts", defArgs s_l_starts, defBody s_l_starts, defScope s_l_starts, [], []⟩
def d_l_least : He.DefD := ⟨("_law_least", none), "_law_least", "_law_least", defArgs s_l_least, defBody s_l_least, defScope s_l_least, [], []⟩
def d_l_changed : He.DefD := ⟨("_law_changed", none), "_law_changed", "_law_changed", defArgs s_l_changed, defBody s_l_changed, defScope s_l_changed, [], []⟩
def d_l_line : He.DefD := ⟨("_law_line", none), "_law_line", "_law_line", defArgs s_l_line, defBody s_l_line, defScope s_l_line, [], []⟩
def d_l_reason : He.DefD := ⟨("_law_reason", none), "_law_reason", "_law_reason", defArgs s_l_reason, defBody s_l_reason, defScope s_l_reason, [], []⟩
def d_l_right : He.DefD := ⟨("_law_right", none), "_law_right", "_law_right", defArgs s_l_right, defBody s_l_right, defScope s_l_right, [], []⟩
def d_l_lines : He.DefD := ⟨("_law_lines", none), "_law_lines", "_law_lines", defArgs s_l_lines, defBody s_l_lines, defScope s_l_lines, [], []⟩
def d_l_due : He.DefD := ⟨("_law_due", none), "_law_due", "_law_due", defArgs s_l_due, defBody s_l_due, defScope s_l_due, [], []⟩
def d_law : He.DefD := ⟨("law", none), "law", "law", defArgs s_law, defBody s_law, defScope s_law, [], []⟩
def fns : List He.DefD := [d_common_divisor, d_is_near, d_line_fits, d_three_fit, d_fraction, d_slope_between, d_line_with_slope, d_turn, d_rise_over, d_is_below, d_Fitter_init, d_Fitter_conflict, d_Fitter_add, d_Fitter_add_corners, d_Fitter_lower_steep, d_Fitter_raise_flat, d_Fitter_line, d_Cutting_init, d_cut, d_are_starts, d_is_reason, d_judge, d_piece_line, d_write_cutting, d_is_plain, d_is_signed, d_piece_in, d_reason_in, d_read_cutting, d_audit, d_l_cell, d_l_digits, d_l_points, d_l_error, d_l_three, d_l_fits, d_l_starts, d_l_least, d_l_changed, d_l_line, d_l_reason, d_l_right, d_l_lines, d_l_due, d_law]
def fas : List He.Fa := [.glo "common_divisor", .glo "is_near", .glo "line_fits", .glo "three_fit", .glo "fraction", .glo "slope_between", .glo "line_with_slope", .glo "turn", .glo "rise_over", .glo "is_below", .glo "cut", .glo "are_starts", .glo "is_reason", .glo "judge", .glo "piece_line", .glo "write_cutting", .glo "is_plain", .glo "is_signed", .glo "piece_in", .glo "reason_in", .glo "read_cutting", .glo "audit", .glo "_law_cell", .glo "_law_digits", .glo "_law_points", .glo "_law_error", .glo "_law_three", .glo "_law_fits", .glo "_law_starts", .glo "_law_least", .glo "_law_changed", .glo "_law_line", .glo "_law_reason", .glo "_law_right", .glo "_law_lines", .glo "_law_due", .glo "law", .glo "Fitter", .cls "Fitter", .mkr "Fitter", .glo "Cutting", .cls "Cutting", .mkr "Cutting", .glo "InvalidPaper", .keep "InvalidPaper", .noat "Fitter" "error", .noat "Fitter" "count", .noat "Fitter" "_points", .noat "Fitter" "_tops", .noat "Fitter" "_bottoms", .noat "Fitter" "_flat", .noat "Fitter" "_steep", .noat "Cutting" "pieces", .noat "Cutting" "reasons", .meth "Fitter" "conflict", .meth "Fitter" "add", .meth "Fitter" "add_corners", .meth "Fitter" "lower_steep", .meth "Fitter" "raise_flat", .meth "Fitter" "line", .free "abs", .free "max", .free "min", .free "len", .free "all", .free "range", .free "enumerate", .free "list", .free "str", .free "int", .free "super", .int "MOST_DIGITS" 60, .str "DIGITS" "0123456789", .exm "InvalidPaper" "InvalidPaper" true]
def names0 : List Str := ["_wall", "common_divisor", "is_near", "line_fits", "three_fit", "fraction", "slope_between", "line_with_slope", "turn", "rise_over", "is_below", "Fitter", "Cutting", "cut", "are_starts"]
def names1 : List Str := ["is_reason", "judge", "LinesError", "InvalidPaper", "DIGITS", "MOST_DIGITS", "piece_line", "write_cutting", "is_plain", "is_signed", "piece_in", "reason_in", "read_cutting", "audit", "_law_cell"]
def names2 : List Str := ["_law_digits", "_law_points", "_law_error", "_law_three", "_law_fits", "_law_starts", "_law_least", "_law_changed", "_law_line", "_law_reason", "_law_right", "_law_lines", "_law_due"]
def names : List Str := names0 ++ names1 ++ names2
abbrev R : PySem.W.OpenRow := PySem.W.OpenLaw.row PySem.Challenge.rw_fewestlines_k38_whole_audits_of_cuttings
abbrev PP : Program := (PySem.Challenge.rw_fewestlines_k38_whole_audits_of_cuttings).prog
/-! ### the error's class: what the given facts do not tell -/
def CI (K : PySem.W.Frag) : Addr := He.ga K "InvalidPaper"
def fI (K : PySem.W.Frag) : Addr := He.ma K (CI K) "__init__"
def clsOk (K : PySem.W.Frag) (C : Addr) : Bool := match K.lookup C with
  | some ⟨.type "type", _, .cls cd, sl⟩ => (match cd.mro, sl.toList with
    | .ref C' :: bm, [_, _, _, _, some (.builtin n), _] => C' == C && (n == "ValueError.__new__" && (!cd.hasDel && (cd.hasDict && PySem.HandSPX.refsVE bm)))
    | _, _ => false)
  | _ => false
theorem clsOk_of {K : PySem.W.Frag} {C : Addr} (q : clsOk K C = true) : ∃ nm qn N bs bm sn sub ab col dd k0 k1 k2 k3 k5, K.lookup C = some (excClassObj nm qn C N bs bm true sn sub ab col dd k0 k1 k2 k3 k5 "ValueError.__new__") ∧ PySem.HandSPX.refsVE bm = true := by
  unfold clsOk at q
  split at q
  · rename_i dd cd sl ho
    split at q
    · rename_i C' bm k0 k1 k2 k3 n k5 hm hs
      simp only [Bool.and_eq_true, beq_iff_eq, Bool.not_eq_true'] at q
      obtain ⟨rfl, rfl, hdel, hdict, ht⟩ := q
      obtain ⟨nm, bs, mro, ns, qn, hd, sn, sub, ab, col, del⟩ := cd
      dsimp only at hm hdel hdict
      subst hm hdel hdict
      have hsl : sl = #[k0, k1, k2, k3, some (.builtin "ValueError.__new__"), k5] := by
        obtain ⟨l⟩ := sl
        simp only at hs
        rw [hs]
      subst hsl
      exact ⟨nm, qn, ns, bs, bm, sn, sub, ab, col, dd, k0, k1, k2, k3, k5, ho, ht⟩
    · cases q
  · cases q
def cellOk (K : PySem.W.Frag) (C f : Addr) : Bool := match K.lookup f with
  | some ⟨_, _, .func fd, _⟩ => (match fd.closure, fd.code with
    | [(n, cc)], .ref cda => n == ("__class__" : Str) && (PySem.W.codeIn K (.ref cda) "InvalidPaper.__init__" && ((match K.lookup cda with
      | some ⟨_, _, .fields (vs : Array Value), _⟩ => (match (vs[2]? : Option Value) with
        | some (Value.str file _) => ((PP.main.file : Str) == file)
        | _ => false)
      | _ => false) && (match K.lookup cc with
      | some ⟨_, _, .cell (some (.ref D)), _⟩ => D == C
      | _ => false)))
    | _, _ => false)
  | _ => false
abbrev FnI : Type := Option (Str × Str × Arguments × FuncBody × Scope × Addr × Value × Value × Addr)
def fnI (K : PySem.W.Frag) : FnI := match K.lookup (fI K) with
  | some ⟨_, _, .func fd, _⟩ => some (fd.name, fd.qualname, fd.params, fd.body, fd.scope, fd.globals, fd.defaults, fd.kwdefaults, fd.builtins)
  | _ => none
def valI : FnI := some ("__init__", "InvalidPaper.__init__", defArgs KX.s_Ip, .stmts (defBody KX.s_Ip), defScope KX.s_Ip, mainGlobals, .none, .none, builtinsNs)
def xok (K : PySem.W.Frag) : Bool :=
  clsOk K (CI K) && (He.eqO (PySem.W.findIn K (.ref (CI K)) "__setattr__") (some (some (.builtin "object.__setattr__"))) && (He.eqO (PySem.W.findIn K (.ref (CI K)) "line") (some none) &&
  (He.eqO (PySem.W.findIn K (.ref (CI K)) "__init__") (some (some (.ref (fI K)))) && (decide (PySem.W.typeIn K (.ref (fI K)) = some (.type "function")) && (decide (PySem.W.subIn K (.ref (CI K)) (.type "BaseException") = some true) &&
  (decide (PySem.W.subIn K (.ref (CI K)) (.type "ValueError") = some true) && (decide (PySem.W.typeIn K (.ref (CI K)) = some (.type "type")) && (He.eqO (PySem.W.ks_superIn K (CI K) (CI K) "__init__") (some (some (.builtin "ValueError.__init__"))) &&
  (He.eqO (PySem.W.nsIn K cStatics "thirdparty.any") (some none) && cellOk K (CI K) (fI K))))))))))
theorem fn_of_cell {K : PySem.W.Frag} {C f : Addr} (q : cellOk K C f = true) (e : (match K.lookup f with
  | some ⟨_, _, .func fd, _⟩ => (some (fd.name, fd.qualname, fd.params, fd.body, fd.scope, fd.globals, fd.defaults, fd.kwdefaults, fd.builtins) : FnI)
  | _ => none) = valI) :
    ∃ (oc : Value) (od : Option Addr) (doc pm : Value) (an : Option Addr) (ct : Value) (osl : Array (Option Value)) (cda cc : Addr) (o1 : Obj) (fv : Array Value) (file : Str) (tf : Tok) (o2 : Obj),
      K.lookup f = some ⟨oc, od, .func (PySem.W.ksFn "__init__" "InvalidPaper.__init__" (L2.defArgs KX.s_Ip) (L2.defBody KX.s_Ip) (L2.defScope KX.s_Ip) .none .none doc pm an (.ref cda) ct cc), osl⟩ ∧ PySem.W.codeIn K (.ref cda) "InvalidPaper.__init__" = true ∧
      K.lookup cda = some o1 ∧ o1.data = .fields fv ∧ fv[2]? = some (.str file tf) ∧ ((PP.main.file : Str) == file) = true ∧ K.lookup cc = some o2 ∧ o2.data = .cell (some (.ref C)) := by
  unfold cellOk at q
  cases hl : K.lookup f with
  | none =>
    rw [hl] at q
    cases q
  | some o =>
    obtain ⟨oc, od, dt, osl⟩ := o
    rw [hl] at q e
    cases dt with
    | func fd =>
      obtain ⟨n1, n2, n3, n4, n5, n6, n7, n8, n9, n10, n11, n12, n13, n14, n15⟩ := fd
      have e2 : (some (n1, n2, n3, n4, n5, n6, n8, n9, n15) : FnI) = valI := e
      unfold valI at e2
      simp only [Option.some.injEq, Prod.mk.injEq] at e2
      obtain ⟨h1, h2, h3, h4, h5, h6, h8, h9, h15⟩ := e2
      subst h1 h2 h3 h4 h5 h6 h8 h9 h15
      dsimp only at q
      split at q
      · rename_i l0 v0 nn cc cda
        simp only [Bool.and_eq_true, beq_iff_eq] at q
        obtain ⟨rfl, q1, q2, q3⟩ := q
        cases hcd : K.lookup cda with
        | none =>
          rw [hcd] at q2
          cases q2
        | some o1 =>
          obtain ⟨a1, b1, dt1, s1⟩ := o1
          rw [hcd] at q2
          cases dt1 with
          | fields vs =>
            dsimp only at q2
            cases hv : vs[2]? with
            | none =>
              rw [hv] at q2
              cases q2
            | some x =>
              rw [hv] at q2
              cases x with
              | str file tf =>
                cases hcc : K.lookup cc with
                | none =>
                  rw [hcc] at q3
                  cases q3
                | some o2 =>
                  obtain ⟨a2, b2, dt2, s2⟩ := o2
                  rw [hcc] at q3
                  cases dt2 with
                  | cell v =>
                    cases v with
                    | none => cases q3
                    | some v =>
                      cases v with
                      | ref D =>
                        have eD : D = C := by simpa using q3
                        subst eD
                        exact ⟨oc, od, n10, n11, n12, n14, osl, cda, cc, _, vs, file, tf, _, rfl, q1, hcd, rfl, hv, q2, hcc, rfl⟩
                      | _ => cases q3
                  | _ => cases q3
              | _ => cases q2
          | _ => cases q2
      · cases q
    | _ => cases q
/-! ### the Hook -/
abbrev AlX : Type := (Bool × FnI) × He.AlD
def obsX (K : PySem.W.Frag) : AlX := ((xok K, fnI K), He.obsD fas fns K)
def valX : AlX := ((true, valI), He.valD fns)
def SaysX (K : PySem.W.Frag) : Prop := obsX K = valX
def cellsOf (g : Addr → Option Obj) (f : Addr) : List Addr := match g f with
  | some ⟨_, _, .func fd, _⟩ => fd.closure.map (·.2)
  | _ => []
def asX (g : Addr → Option Obj) (n : Nat) : List Addr := let as := He.asD g n; as ++ (cStatics :: cellsOf g (fI (He.frG g as)))
def obsXG (n : Nat) (g : Addr → Option Obj) : AlX := obsX (He.frG g (asX g n))
def hookX (n : Nat) : PySem.W.Hook where
  α := AlX
  obs := fun s => obsXG n s.heap.get?
  val := fun _ => valX
  says := fun _ h => ∃ K : PySem.W.Frag, K.In h ∧ SaysX K
  of := fun _ _ e => ⟨_, He.frG_in, e⟩
  keeps := fun _ _ _ ⟨K, hK, c⟩ k => ⟨K, PySem.W.Frag.In.keeps hK k, c⟩
abbrev hk : PySem.W.Hook := hookX 6
def ob (s : PySem.W.SharedT) : AlX := obsXG 6 (HandSHeadRun.getT s)
theorem obsXG_eq {n : Nat} {g : Addr → Option Obj} {s : Shared} (h : ∀ a, g a = s.heap.get? a) : obsXG n g = (hookX n).obs s := by
  have e : g = s.heap.get? := funext h
  rw [e] <;> rfl
theorem ob_eq (s : PySem.W.SharedT) : ob s = hk.obs s.abs := obsXG_eq (HandSHeadRun.getT_eq s)
theorem run (w : World) : HandSHeadRun.RunEq R (PySem.W.view R.prog [50]) hk ob 20000 names w := by
  intro os
  kernel_rfl
section
variable {K : PySem.W.Frag} {h : Heap} {mg : Str → Option Value}
theorem SaysX.d (c : SaysX K) : He.SaysD fas fns K := congrArg (fun z : AlX => z.2) c
theorem SaysX.x (c : SaysX K) : xok K = true := congrArg (fun z : AlX => z.1.1) c
theorem SaysX.f (c : SaysX K) : fnI K = valI := congrArg (fun z : AlX => z.1.2) c
theorem txt (X : K.In h) (G : h.Ns mainGlobals mg) (c : He.SaysD fas fns K) : Txt mg where
  abs := He.free_ok X G (c.fact 60 (f := .free "abs") rfl)
  max := He.free_ok X G (c.fact 61 (f := .free "max") rfl)
  min := He.free_ok X G (c.fact 62 (f := .free "min") rfl)
  len := He.free_ok X G (c.fact 63 (f := .free "len") rfl)
  all := He.free_ok X G (c.fact 64 (f := .free "all") rfl)
  range := He.free_ok X G (c.fact 65 (f := .free "range") rfl)
  enumerate := He.free_ok X G (c.fact 66 (f := .free "enumerate") rfl)
  lst := He.free_ok X G (c.fact 67 (f := .free "list") rfl)
  str := He.free_ok X G (c.fact 68 (f := .free "str") rfl)
  int := He.free_ok X G (c.fact 69 (f := .free "int") rfl)
  super := He.free_ok X G (c.fact 70 (f := .free "super") rfl)
  DIGITS := by
    obtain ⟨t, e⟩ := He.str_ok X G (c.fact 72 (f := .str "DIGITS" "0123456789") rfl)
    exact ⟨_, e, ⟨t, rfl⟩⟩
  MOST_DIGITS := by
    obtain ⟨t, e⟩ := He.int_ok X G (c.fact 71 (f := .int "MOST_DIGITS" 60) rfl)
    exact ⟨_, e, ⟨t, rfl⟩⟩
theorem fitC (c : He.SaysD fas fns K) : FitC K (He.ga K "Fitter") where
  cl := He.cls_ok (c.fact 38 (f := .cls "Fitter") rfl)
  error := He.noat_ok (c.fact 45 (f := .noat "Fitter" "error") rfl)
  count := He.noat_ok (c.fact 46 (f := .noat "Fitter" "count") rfl)
  points := He.noat_ok (c.fact 47 (f := .noat "Fitter" "_points") rfl)
  tops := He.noat_ok (c.fact 48 (f := .noat "Fitter" "_tops") rfl)
  bottoms := He.noat_ok (c.fact 49 (f := .noat "Fitter" "_bottoms") rfl)
  flat := He.noat_ok (c.fact 50 (f := .noat "Fitter" "_flat") rfl)
  steep := He.noat_ok (c.fact 51 (f := .noat "Fitter" "_steep") rfl)
theorem cutC (c : He.SaysD fas fns K) : CutC K (He.ga K "Cutting") where
  cl := He.cls_ok (c.fact 41 (f := .cls "Cutting") rfl)
  pieces := He.noat_ok (c.fact 52 (f := .noat "Cutting" "pieces") rfl)
  reasons := He.noat_ok (c.fact 53 (f := .noat "Cutting" "reasons") rfl)
theorem df_common_divisor (X : K.In h) (G : h.Ns mainGlobals mg) (c : He.SaysD fas fns K) : DefAt K mg "common_divisor" s_common_divisor := by
  obtain ⟨fd, F⟩ := c.def_ 0 (d := d_common_divisor) rfl
  exact ⟨_, fd, F, He.glo_ok X G (c.fact 0 (f := .glo "common_divisor") rfl)⟩
theorem df_is_near (X : K.In h) (G : h.Ns mainGlobals mg) (c : He.SaysD fas fns K) : DefAt K mg "is_near" s_is_near := by
  obtain ⟨fd, F⟩ := c.def_ 1 (d := d_is_near) rfl
  exact ⟨_, fd, F, He.glo_ok X G (c.fact 1 (f := .glo "is_near") rfl)⟩
theorem df_line_fits (X : K.In h) (G : h.Ns mainGlobals mg) (c : He.SaysD fas fns K) : DefAt K mg "line_fits" s_line_fits := by
  obtain ⟨fd, F⟩ := c.def_ 2 (d := d_line_fits) rfl
  exact ⟨_, fd, F, He.glo_ok X G (c.fact 2 (f := .glo "line_fits") rfl)⟩
theorem df_three_fit (X : K.In h) (G : h.Ns mainGlobals mg) (c : He.SaysD fas fns K) : DefAt K mg "three_fit" s_three_fit := by
  obtain ⟨fd, F⟩ := c.def_ 3 (d := d_three_fit) rfl
  exact ⟨_, fd, F, He.glo_ok X G (c.fact 3 (f := .glo "three_fit") rfl)⟩
theorem df_fraction (X : K.In h) (G : h.Ns mainGlobals mg) (c : He.SaysD fas fns K) : DefAt K mg "fraction" s_fraction := by
  obtain ⟨fd, F⟩ := c.def_ 4 (d := d_fraction) rfl
  exact ⟨_, fd, F, He.glo_ok X G (c.fact 4 (f := .glo "fraction") rfl)⟩
theorem df_slope_between (X : K.In h) (G : h.Ns mainGlobals mg) (c : He.SaysD fas fns K) : DefAt K mg "slope_between" s_slope_between := by
  obtain ⟨fd, F⟩ := c.def_ 5 (d := d_slope_between) rfl
  exact ⟨_, fd, F, He.glo_ok X G (c.fact 5 (f := .glo "slope_between") rfl)⟩
theorem df_line_with_slope (X : K.In h) (G : h.Ns mainGlobals mg) (c : He.SaysD fas fns K) : DefAt K mg "line_with_slope" s_line_with_slope := by
  obtain ⟨fd, F⟩ := c.def_ 6 (d := d_line_with_slope) rfl
  exact ⟨_, fd, F, He.glo_ok X G (c.fact 6 (f := .glo "line_with_slope") rfl)⟩
theorem df_turn (X : K.In h) (G : h.Ns mainGlobals mg) (c : He.SaysD fas fns K) : DefAt K mg "turn" s_turn := by
  obtain ⟨fd, F⟩ := c.def_ 7 (d := d_turn) rfl
  exact ⟨_, fd, F, He.glo_ok X G (c.fact 7 (f := .glo "turn") rfl)⟩
theorem df_rise_over (X : K.In h) (G : h.Ns mainGlobals mg) (c : He.SaysD fas fns K) : DefAt K mg "rise_over" s_rise_over := by
  obtain ⟨fd, F⟩ := c.def_ 8 (d := d_rise_over) rfl
  exact ⟨_, fd, F, He.glo_ok X G (c.fact 8 (f := .glo "rise_over") rfl)⟩
theorem df_is_below (X : K.In h) (G : h.Ns mainGlobals mg) (c : He.SaysD fas fns K) : DefAt K mg "is_below" s_is_below := by
  obtain ⟨fd, F⟩ := c.def_ 9 (d := d_is_below) rfl
  exact ⟨_, fd, F, He.glo_ok X G (c.fact 9 (f := .glo "is_below") rfl)⟩
theorem df_Fitter_init (X : K.In h) (G : h.Ns mainGlobals mg) (c : He.SaysD fas fns K) : InitAt K mg "Fitter" (He.ga K "Fitter") "Fitter.__init__" s_Fitter_init := by
  obtain ⟨fd, F⟩ := c.def_ 10 (d := d_Fitter_init) rfl
  exact ⟨_, fd, F, He.mkr_ok (c.fact 39 (f := .mkr "Fitter") rfl), He.glo_ok X G (c.fact 37 (f := .glo "Fitter") rfl)⟩
theorem df_Fitter_conflict (c : He.SaysD fas fns K) : MethAt K (He.ga K "Fitter") "conflict" "Fitter.conflict" s_Fitter_conflict := by
  obtain ⟨fd, F⟩ := c.def_ 11 (d := d_Fitter_conflict) rfl
  exact ⟨_, fd, F, He.meth_ok (c.fact 54 (f := .meth "Fitter" "conflict") rfl)⟩
theorem df_Fitter_add (c : He.SaysD fas fns K) : MethAt K (He.ga K "Fitter") "add" "Fitter.add" s_Fitter_add := by
  obtain ⟨fd, F⟩ := c.def_ 12 (d := d_Fitter_add) rfl
  exact ⟨_, fd, F, He.meth_ok (c.fact 55 (f := .meth "Fitter" "add") rfl)⟩
theorem df_Fitter_add_corners (c : He.SaysD fas fns K) : MethAt K (He.ga K "Fitter") "add_corners" "Fitter.add_corners" s_Fitter_add_corners := by
  obtain ⟨fd, F⟩ := c.def_ 13 (d := d_Fitter_add_corners) rfl
  exact ⟨_, fd, F, He.meth_ok (c.fact 56 (f := .meth "Fitter" "add_corners") rfl)⟩
theorem df_Fitter_lower_steep (c : He.SaysD fas fns K) : MethAt K (He.ga K "Fitter") "lower_steep" "Fitter.lower_steep" s_Fitter_lower_steep := by
  obtain ⟨fd, F⟩ := c.def_ 14 (d := d_Fitter_lower_steep) rfl
  exact ⟨_, fd, F, He.meth_ok (c.fact 57 (f := .meth "Fitter" "lower_steep") rfl)⟩
theorem df_Fitter_raise_flat (c : He.SaysD fas fns K) : MethAt K (He.ga K "Fitter") "raise_flat" "Fitter.raise_flat" s_Fitter_raise_flat := by
  obtain ⟨fd, F⟩ := c.def_ 15 (d := d_Fitter_raise_flat) rfl
  exact ⟨_, fd, F, He.meth_ok (c.fact 58 (f := .meth "Fitter" "raise_flat") rfl)⟩
theorem df_Fitter_line (c : He.SaysD fas fns K) : MethAt K (He.ga K "Fitter") "line" "Fitter.line" s_Fitter_line := by
  obtain ⟨fd, F⟩ := c.def_ 16 (d := d_Fitter_line) rfl
  exact ⟨_, fd, F, He.meth_ok (c.fact 59 (f := .meth "Fitter" "line") rfl)⟩
theorem df_Cutting_init (X : K.In h) (G : h.Ns mainGlobals mg) (c : He.SaysD fas fns K) : InitAt K mg "Cutting" (He.ga K "Cutting") "Cutting.__init__" s_Cutting_init := by
  obtain ⟨fd, F⟩ := c.def_ 17 (d := d_Cutting_init) rfl
  exact ⟨_, fd, F, He.mkr_ok (c.fact 42 (f := .mkr "Cutting") rfl), He.glo_ok X G (c.fact 40 (f := .glo "Cutting") rfl)⟩
theorem df_cut (X : K.In h) (G : h.Ns mainGlobals mg) (c : He.SaysD fas fns K) : DefAt K mg "cut" s_cut := by
  obtain ⟨fd, F⟩ := c.def_ 18 (d := d_cut) rfl
  exact ⟨_, fd, F, He.glo_ok X G (c.fact 10 (f := .glo "cut") rfl)⟩
theorem df_are_starts (X : K.In h) (G : h.Ns mainGlobals mg) (c : He.SaysD fas fns K) : DefAt K mg "are_starts" s_are_starts := by
  obtain ⟨fd, F⟩ := c.def_ 19 (d := d_are_starts) rfl
  exact ⟨_, fd, F, He.glo_ok X G (c.fact 11 (f := .glo "are_starts") rfl)⟩
theorem df_is_reason (X : K.In h) (G : h.Ns mainGlobals mg) (c : He.SaysD fas fns K) : DefAt K mg "is_reason" s_is_reason := by
  obtain ⟨fd, F⟩ := c.def_ 20 (d := d_is_reason) rfl
  exact ⟨_, fd, F, He.glo_ok X G (c.fact 12 (f := .glo "is_reason") rfl)⟩
theorem df_judge (X : K.In h) (G : h.Ns mainGlobals mg) (c : He.SaysD fas fns K) : DefAt K mg "judge" s_judge := by
  obtain ⟨fd, F⟩ := c.def_ 21 (d := d_judge) rfl
  exact ⟨_, fd, F, He.glo_ok X G (c.fact 13 (f := .glo "judge") rfl)⟩
theorem df_piece_line (X : K.In h) (G : h.Ns mainGlobals mg) (c : He.SaysD fas fns K) : DefAt K mg "piece_line" s_piece_line := by
  obtain ⟨fd, F⟩ := c.def_ 22 (d := d_piece_line) rfl
  exact ⟨_, fd, F, He.glo_ok X G (c.fact 14 (f := .glo "piece_line") rfl)⟩
theorem df_write_cutting (X : K.In h) (G : h.Ns mainGlobals mg) (c : He.SaysD fas fns K) : DefAt K mg "write_cutting" s_write_cutting := by
  obtain ⟨fd, F⟩ := c.def_ 23 (d := d_write_cutting) rfl
  exact ⟨_, fd, F, He.glo_ok X G (c.fact 15 (f := .glo "write_cutting") rfl)⟩
theorem df_is_plain (X : K.In h) (G : h.Ns mainGlobals mg) (c : He.SaysD fas fns K) : DefAt K mg "is_plain" s_is_plain := by
  obtain ⟨fd, F⟩ := c.def_ 24 (d := d_is_plain) rfl
  exact ⟨_, fd, F, He.glo_ok X G (c.fact 16 (f := .glo "is_plain") rfl)⟩
theorem df_is_signed (X : K.In h) (G : h.Ns mainGlobals mg) (c : He.SaysD fas fns K) : DefAt K mg "is_signed" s_is_signed := by
  obtain ⟨fd, F⟩ := c.def_ 25 (d := d_is_signed) rfl
  exact ⟨_, fd, F, He.glo_ok X G (c.fact 17 (f := .glo "is_signed") rfl)⟩
theorem df_piece_in (X : K.In h) (G : h.Ns mainGlobals mg) (c : He.SaysD fas fns K) : DefAt K mg "piece_in" s_piece_in := by
  obtain ⟨fd, F⟩ := c.def_ 26 (d := d_piece_in) rfl
  exact ⟨_, fd, F, He.glo_ok X G (c.fact 18 (f := .glo "piece_in") rfl)⟩
theorem df_reason_in (X : K.In h) (G : h.Ns mainGlobals mg) (c : He.SaysD fas fns K) : DefAt K mg "reason_in" s_reason_in := by
  obtain ⟨fd, F⟩ := c.def_ 27 (d := d_reason_in) rfl
  exact ⟨_, fd, F, He.glo_ok X G (c.fact 19 (f := .glo "reason_in") rfl)⟩
theorem df_read_cutting (X : K.In h) (G : h.Ns mainGlobals mg) (c : He.SaysD fas fns K) : DefAt K mg "read_cutting" s_read_cutting := by
  obtain ⟨fd, F⟩ := c.def_ 28 (d := d_read_cutting) rfl
  exact ⟨_, fd, F, He.glo_ok X G (c.fact 20 (f := .glo "read_cutting") rfl)⟩
theorem df_audit (X : K.In h) (G : h.Ns mainGlobals mg) (c : He.SaysD fas fns K) : DefAt K mg "audit" s_audit := by
  obtain ⟨fd, F⟩ := c.def_ 29 (d := d_audit) rfl
  exact ⟨_, fd, F, He.glo_ok X G (c.fact 21 (f := .glo "audit") rfl)⟩
theorem df_l_cell (X : K.In h) (G : h.Ns mainGlobals mg) (c : He.SaysD fas fns K) : DefAt K mg "_law_cell" s_l_cell := by
  obtain ⟨fd, F⟩ := c.def_ 30 (d := d_l_cell) rfl
  exact ⟨_, fd, F, He.glo_ok X G (c.fact 22 (f := .glo "_law_cell") rfl)⟩
theorem df_l_digits (X : K.In h) (G : h.Ns mainGlobals mg) (c : He.SaysD fas fns K) : DefAt K mg "_law_digits" s_l_digits := by
  obtain ⟨fd, F⟩ := c.def_ 31 (d := d_l_digits) rfl
  exact ⟨_, fd, F, He.glo_ok X G (c.fact 23 (f := .glo "_law_digits") rfl)⟩
theorem df_l_points (X : K.In h) (G : h.Ns mainGlobals mg) (c : He.SaysD fas fns K) : DefAt K mg "_law_points" s_l_points := by
  obtain ⟨fd, F⟩ := c.def_ 32 (d := d_l_points) rfl
  exact ⟨_, fd, F, He.glo_ok X G (c.fact 24 (f := .glo "_law_points") rfl)⟩
theorem df_l_error (X : K.In h) (G : h.Ns mainGlobals mg) (c : He.SaysD fas fns K) : DefAt K mg "_law_error" s_l_error := by
  obtain ⟨fd, F⟩ := c.def_ 33 (d := d_l_error) rfl
  exact ⟨_, fd, F, He.glo_ok X G (c.fact 25 (f := .glo "_law_error") rfl)⟩
theorem df_l_three (X : K.In h) (G : h.Ns mainGlobals mg) (c : He.SaysD fas fns K) : DefAt K mg "_law_three" s_l_three := by
  obtain ⟨fd, F⟩ := c.def_ 34 (d := d_l_three) rfl
  exact ⟨_, fd, F, He.glo_ok X G (c.fact 26 (f := .glo "_law_three") rfl)⟩
theorem df_l_fits (X : K.In h) (G : h.Ns mainGlobals mg) (c : He.SaysD fas fns K) : DefAt K mg "_law_fits" s_l_fits := by
  obtain ⟨fd, F⟩ := c.def_ 35 (d := d_l_fits) rfl
  exact ⟨_, fd, F, He.glo_ok X G (c.fact 27 (f := .glo "_law_fits") rfl)⟩
theorem df_l_starts (X : K.In h) (G : h.Ns mainGlobals mg) (c : He.SaysD fas fns K) : DefAt K mg "_law_starts" s_l_starts := by
  obtain ⟨fd, F⟩ := c.def_ 36 (d := d_l_starts) rfl
  exact ⟨_, fd, F, He.glo_ok X G (c.fact 28 (f := .glo "_law_starts") rfl)⟩
theorem df_l_least (X : K.In h) (G : h.Ns mainGlobals mg) (c : He.SaysD fas fns K) : DefAt K mg "_law_least" s_l_least := by
  obtain ⟨fd, F⟩ := c.def_ 37 (d := d_l_least) rfl
  exact ⟨_, fd, F, He.glo_ok X G (c.fact 29 (f := .glo "_law_least") rfl)⟩
theorem df_l_changed (X : K.In h) (G : h.Ns mainGlobals mg) (c : He.SaysD fas fns K) : DefAt K mg "_law_changed" s_l_changed := by
  obtain ⟨fd, F⟩ := c.def_ 38 (d := d_l_changed) rfl
  exact ⟨_, fd, F, He.glo_ok X G (c.fact 30 (f := .glo "_law_changed") rfl)⟩
theorem df_l_line (X : K.In h) (G : h.Ns mainGlobals mg) (c : He.SaysD fas fns K) : DefAt K mg "_law_line" s_l_line := by
  obtain ⟨fd, F⟩ := c.def_ 39 (d := d_l_line) rfl
  exact ⟨_, fd, F, He.glo_ok X G (c.fact 31 (f := .glo "_law_line") rfl)⟩
theorem df_l_reason (X : K.In h) (G : h.Ns mainGlobals mg) (c : He.SaysD fas fns K) : DefAt K mg "_law_reason" s_l_reason := by
  obtain ⟨fd, F⟩ := c.def_ 40 (d := d_l_reason) rfl
  exact ⟨_, fd, F, He.glo_ok X G (c.fact 32 (f := .glo "_law_reason") rfl)⟩
theorem df_l_right (X : K.In h) (G : h.Ns mainGlobals mg) (c : He.SaysD fas fns K) : DefAt K mg "_law_right" s_l_right := by
  obtain ⟨fd, F⟩ := c.def_ 41 (d := d_l_right) rfl
  exact ⟨_, fd, F, He.glo_ok X G (c.fact 33 (f := .glo "_law_right") rfl)⟩
theorem df_l_lines (X : K.In h) (G : h.Ns mainGlobals mg) (c : He.SaysD fas fns K) : DefAt K mg "_law_lines" s_l_lines := by
  obtain ⟨fd, F⟩ := c.def_ 42 (d := d_l_lines) rfl
  exact ⟨_, fd, F, He.glo_ok X G (c.fact 34 (f := .glo "_law_lines") rfl)⟩
theorem df_l_due (X : K.In h) (G : h.Ns mainGlobals mg) (c : He.SaysD fas fns K) : DefAt K mg "_law_due" s_l_due := by
  obtain ⟨fd, F⟩ := c.def_ 43 (d := d_l_due) rfl
  exact ⟨_, fd, F, He.glo_ok X G (c.fact 35 (f := .glo "_law_due") rfl)⟩
theorem df_law (X : K.In h) (G : h.Ns mainGlobals mg) (c : He.SaysD fas fns K) : DefAt K mg "law" s_law := by
  obtain ⟨fd, F⟩ := c.def_ 44 (d := d_law) rfl
  exact ⟨_, fd, F, He.glo_ok X G (c.fact 36 (f := .glo "law") rfl)⟩
theorem ipT (X : K.In h) (G : h.Ns mainGlobals mg) (c : SaysX K) : KX.IpTxt PP K mg (CI K) (fI K) := by
  have x := c.x
  unfold xok at x
  simp only [Bool.and_eq_true] at x
  obtain ⟨x1, x2, x3, x4, x5, x6, x7, x8, x9, x10, x11⟩ := x
  have d := c.d
  exact { gC := He.glo_ok X G (d.fact 43 (f := .glo "InvalidPaper") rfl), cls := clsOk_of x1, sa := He.eqO_ok x2, noN := He.eqO_ok x3, iC := He.eqO_ok x4, tC := of_decide_eq_true x5, kC := He.keep_ok (d.fact 44 (f := .keep "InvalidPaper") rfl), exC := of_decide_eq_true x6, veC := of_decide_eq_true x7, tyC := of_decide_eq_true x8, te := He.exm_ok (d.fact 73 (f := .exm "InvalidPaper" "InvalidPaper" true) rfl), sup := He.eqO_ok x9, opq := He.eqO_ok x10, noS := He.free_ok X G (d.fact 70 (f := .free "super") rfl), noStr := He.free_ok X G (d.fact 68 (f := .free "str") rfl), top := by decide +kernel, fn := fn_of_cell x11 c.f }
end
end KH
namespace KH
open PySem PySem.Spec PyProof.Rows L2 KW
theorem facts {w : World} {K : PySem.W.Frag} {h : Heap} {mg : Str → Option Value} {f : Addr} (X : K.In h) (G : h.Ns mainGlobals mg) (hfa : mg ("law" : Str) = some (.ref f)) (c : SaysX K) :
    ∃ fd : FuncData, (∀ (s : Shared) (v : Value), BindsTo s fd ⟨[v], []⟩ [("_law_script", v)]) ∧ ∀ base : Heap, K.In base → base.Ns mainGlobals mg → FnOk PP w K mg base L2.CX0 6 f fd ["_law_script"] (spLaw K) := by
  have T := txt X G c.d
  have FC := fitC c.d
  have JC := cutC c.d
  have IP := ipT X G c
  obtain ⟨fd, F⟩ := c.d.def_ 44 (d := d_law) rfl
  have e := hfa.symm.trans (He.glo_ok X G (c.d.fact 36 (f := .glo "law") rfl))
  cases e
  have b := FunD.bindsA (ps := ["_law_script"]) F fun _ _ _ _ _ _ us hl => match us, hl with | [_], _ => rfl
  refine ⟨fd, fun s v => b s [v] rfl, fun base _ _ => ?_⟩
  have c_three_fit := ok_three_fit (P := PP) (w := w) (base := base) T (df_three_fit X G c.d)
  have c_l_three := ok_l_three (P := PP) (w := w) (base := base) T (df_l_three X G c.d)
  have c_is_near := ok_is_near (P := PP) (w := w) (base := base) T (df_is_near X G c.d)
  have c_line_fits := ok_line_fits (P := PP) (w := w) (base := base) T (df_line_fits X G c.d) c_is_near
  have c_l_fits := ok_l_fits (P := PP) (w := w) (base := base) T (df_l_fits X G c.d) c_l_three
  have c_common_divisor := ok_common_divisor (P := PP) (w := w) (base := base) T (df_common_divisor X G c.d)
  have c_fraction := ok_fraction (P := PP) (w := w) (base := base) T (df_fraction X G c.d) c_common_divisor
  have c_slope_between := ok_slope_between (P := PP) (w := w) (base := base) T (df_slope_between X G c.d)
  have c_turn := ok_turn (P := PP) (w := w) (base := base) T (df_turn X G c.d)
  have c_rise_over := ok_rise_over (P := PP) (w := w) (base := base) T (df_rise_over X G c.d)
  have c_is_below := ok_is_below (P := PP) (w := w) (base := base) T (df_is_below X G c.d)
  have c_line_with_slope := ok_line_with_slope (P := PP) (w := w) (base := base) T (df_line_with_slope X G c.d)
  have c_Fitter_conflict := ok_Fitter_conflict (P := PP) (w := w) (base := base) T FC (df_Fitter_conflict c.d) c_is_below c_rise_over
  have c_Fitter_lower_steep := ok_Fitter_lower_steep (P := PP) (w := w) (base := base) T FC (df_Fitter_lower_steep c.d) c_is_below c_rise_over
  have c_Fitter_raise_flat := ok_Fitter_raise_flat (P := PP) (w := w) (base := base) T FC (df_Fitter_raise_flat c.d) c_is_below c_rise_over
  have c_Fitter_add_corners := ok_Fitter_add_corners (P := PP) (w := w) (base := base) T FC (df_Fitter_add_corners c.d) c_turn
  have c_Fitter_add := ok_Fitter_add (P := PP) (w := w) (base := base) T FC (df_Fitter_add c.d) c_Fitter_conflict c_Fitter_lower_steep c_Fitter_raise_flat c_Fitter_add_corners
  have c_Fitter_line := ok_Fitter_line (P := PP) (w := w) (base := base) T FC (df_Fitter_line c.d) c_rise_over c_slope_between c_fraction c_line_with_slope
  have c_Fitter_init := ok_Fitter_init (P := PP) (w := w) (base := base) T FC (df_Fitter_init X G c.d)
  have c_Cutting_init := ok_Cutting_init (P := PP) (w := w) (base := base) T JC (df_Cutting_init X G c.d)
  have c_cut := ok_cut (P := PP) (w := w) (base := base) T (df_cut X G c.d) c_Fitter_init c_Fitter_conflict c_Fitter_line c_Fitter_add c_Cutting_init
  have c_are_starts := ok_are_starts (P := PP) (w := w) (base := base) T (df_are_starts X G c.d)
  have c_is_reason := ok_is_reason (P := PP) (w := w) (base := base) T (df_is_reason X G c.d) c_three_fit
  have c_judge := ok_judge (P := PP) (w := w) (base := base) T JC (df_judge X G c.d) c_are_starts c_line_fits c_is_reason
  have c_is_plain := ok_is_plain (P := PP) (w := w) (base := base) T (df_is_plain X G c.d)
  have c_is_signed := ok_is_signed (P := PP) (w := w) (base := base) T (df_is_signed X G c.d) c_is_plain
  have c_piece_line := ok_piece_line (P := PP) (w := w) (base := base) T (df_piece_line X G c.d)
  have c_write_cutting := ok_write_cutting (P := PP) (w := w) (base := base) T JC (df_write_cutting X G c.d) c_piece_line
  have c_piece_in := ok_piece_in (P := PP) (w := w) (base := base) T (df_piece_in X G c.d) c_is_plain c_is_signed
  have c_reason_in := ok_reason_in (P := PP) (w := w) (base := base) T (df_reason_in X G c.d) c_is_plain
  have c_read_cutting := ok_read_cutting (P := PP) (w := w) (base := base) T JC IP (df_read_cutting X G c.d) c_piece_in c_reason_in c_Cutting_init
  have c_audit := ok_audit (P := PP) (w := w) (base := base) T JC IP (df_audit X G c.d) c_read_cutting c_judge
  have c_l_due := ok_l_due (P := PP) (w := w) (base := base) T JC IP (df_l_due X G c.d) c_read_cutting c_judge
  have c_l_cell := ok_l_cell (P := PP) (w := w) (base := base) T (df_l_cell X G c.d)
  have c_l_digits := ok_l_digits (P := PP) (w := w) (base := base) T (df_l_digits X G c.d)
  have c_l_points := ok_l_points (P := PP) (w := w) (base := base) T (df_l_points X G c.d) c_l_cell c_l_digits
  have c_l_error := ok_l_error (P := PP) (w := w) (base := base) T (df_l_error X G c.d) c_l_cell
  have c_l_starts := ok_l_starts (P := PP) (w := w) (base := base) T (df_l_starts X G c.d) c_l_fits
  have c_l_least := ok_l_least (P := PP) (w := w) (base := base) T (df_l_least X G c.d) c_l_fits
  have c_l_reason := ok_l_reason (P := PP) (w := w) (base := base) T (df_l_reason X G c.d) c_l_three
  have c_l_line := ok_l_line (P := PP) (w := w) (base := base) T (df_l_line X G c.d)
  have c_l_right := ok_l_right (P := PP) (w := w) (base := base) T (df_l_right X G c.d) c_l_starts c_l_line c_l_reason
  have c_l_lines := ok_l_lines (P := PP) (w := w) (base := base) T (df_l_lines X G c.d)
  have c_l_changed := ok_l_changed (P := PP) (w := w) (base := base) T (df_l_changed X G c.d)
  exact F.ok sc_law (fun vs H Q E h => by
    obtain ⟨a, ns, rfl, _⟩ := h
    rfl) (fun cdv A outer s H vs Q E hr h => (bd_ok_law T c_l_points c_l_error c_l_least c_l_right c_l_cell c_audit c_l_lines c_write_cutting c_cut c_l_changed c_l_due _ cdv A outer s H vs Q E hr h).imp fun t q => ⟨PSs.nox q.1, q.2⟩)
end KH
open PySem PySem.W PySem.Calls PyProof.Rows
theorem PySem.Challenge.cw_fewestlines_k38_whole_audits_of_cuttings_holds : PySem.Challenge.rw_fewestlines_k38_whole_audits_of_cuttings.Holds := by
  w_on; o_law
  refine HandSHeadRun.head_any (r := OpenLaw.row PySem.Challenge.rw_fewestlines_k38_whole_audits_of_cuttings) (q := view (OpenLaw.row PySem.Challenge.rw_fewestlines_k38_whole_audits_of_cuttings).prog [50]) (H := KH.hk) (ob := KH.ob) (M := 20000) (loose := KH.names) (d := HandSHeadRun.topDef (OpenLaw.row PySem.Challenge.rw_fewestlines_k38_whole_audits_of_cuttings).prog 50) (kwd := []) KH.ob_eq
    (by kernel_rfl) (fun s => by kernel_rfl) KH.run (by kernel_rfl) (by kernel_rfl) (by kernel_rfl) (by rfl) (by first | assumption | decide +kernel) (by decide +kernel) ⟨rfl, rfl, rfl, rfl, rfl, by decide +kernel⟩ ?hw ?hc
  case hw => w_witness2
  case hc =>
    refine L2.walk_ofE (l := PySem.Challenge.rw_fewestlines_k38_whole_audits_of_cuttings) (n := 63) (k := 6) (x := "_law_script") (CX := L2.CX0) rfl (by decide) (by kernel_rfl) ⟨rfl, by decide, by decide⟩ ?F (fun _ _ _ _ z => z)
    intro w mg fa h Y G hmg0
    obtain ⟨K, KX, c⟩ := Y
    have hmg : mg ("law" : PySem.Str) = some (.ref fa) := by
      have e : (HandSHeadRun.topDef (OpenLaw.row PySem.Challenge.rw_fewestlines_k38_whole_audits_of_cuttings).prog 50).name = ("law" : PySem.Str) := by kernel_rfl
      rw [← e]
      exact hmg0
    obtain ⟨fd, hb, hF⟩ := KH.facts (w := w) KX G hmg c
    exact ⟨K, fd, KW.spLaw K, KX, hb, fun H a ns hl _ hS => ⟨a, ns, rfl, hS, fun _ => rfl⟩, hF⟩
