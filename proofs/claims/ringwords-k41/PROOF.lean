import PyProof.Rows.All
import Wide.All
import OpenK.AllK
import Wide.FinOn
import HandS.ForMost
import HandS.Evl
import HandS.TupAny
import HandS.Deep
import HandS.IsInst
import HandS.Replace
import HandS.NoneIn
import HandS.More
import HandS.Flow
import HandS.Style
import HandS.Zip
import KE.SortData
import KE.DataMinMax
import KE.GoesMore
import HandS.Strs
import HandS.Codes
import PySem.Challenge.RW_ringwords_k41_whole_no_drawing_crosses_l
set_option Elab.async false
set_option linter.all false
namespace Rw
/-! ### letters -/
/-- a letter's code: A .. F, a .. f -/
def Lt (c : Nat) : Prop := (65 ≤ c ∧ c ≤ 70) ∨ (97 ≤ c ∧ c ≤ 102)
instance (c : Nat) : Decidable (Lt c) := inferInstanceAs (Decidable (_ ∨ _))
def bk (c : Nat) : Nat := if c < 97 then c + 32 else c - 32
def small (c : Nat) : Bool := decide (97 ≤ c)
theorem bk_lt {c : Nat} (h : Lt c) : Lt (bk c) := by unfold Lt bk at *; split <;> omega
theorem bk_bk {c : Nat} (h : Lt c) : bk (bk c) = c := by
  have : bk (bk c) = if (if c < 97 then c + 32 else c - 32) < 97 then (if c < 97 then c + 32 else c - 32) + 32 else (if c < 97 then c + 32 else c - 32) - 32 := rfl
  rw [this]; unfold Lt at h; split <;> split <;> omega
theorem bk_ne {c : Nat} (h : Lt c) : bk c ≠ c := by unfold Lt bk at *; split <;> omega
theorem bk_inj {c d : Nat} (h : Lt c) (h' : Lt d) (e : bk c = bk d) : c = d := by rw [← bk_bk h, e, bk_bk h']
theorem small_bk {c : Nat} (h : Lt c) : small (bk c) = !small c := by
  unfold Lt at h; unfold small bk
  by_cases q : c < 97
  · rw [if_pos q, decide_eq_true (by omega), decide_eq_false (by omega)]; rfl
  · rw [if_neg q, decide_eq_false (by omega), decide_eq_true (by omega)]; rfl

/-! ### a cyclic word -/
def atW (w : List Nat) (t : Int) : Nat := w.getD (t % (w.length : Int)).toNat 0
theorem atW_mod (w : List Nat) {a b : Int} (h : a % (w.length : Int) = b % (w.length : Int)) : atW w a = atW w b := by unfold atW; rw [h]
theorem atW_per (w : List Nat) (t : Int) : atW w (t + (w.length : Int)) = atW w t := atW_mod w (Int.add_emod_right ..)
theorem ix_lt {w : List Nat} (hw : w ≠ []) (t : Int) : (t % (w.length : Int)).toNat < w.length := by
  have h0 : 0 < w.length := List.length_pos_iff.mpr hw
  have h1 := Int.emod_nonneg t (b := (w.length : Int)) (by omega)
  have h2 := Int.emod_lt_of_pos t (b := (w.length : Int)) (by omega)
  omega
theorem atW_mem {w : List Nat} (hw : w ≠ []) (t : Int) : atW w t ∈ w := by
  unfold atW
  rw [List.getD_eq_getElem?_getD, List.getElem?_eq_getElem (ix_lt hw t)]
  exact List.getElem_mem _
theorem atW_nat {w : List Nat} {k : Nat} (h : k < w.length) : atW w (k : Int) = w[k] := by
  unfold atW
  have e : ((k : Int) % (w.length : Int)).toNat = k := by
    rw [Int.emod_eq_of_lt (by omega) (by omega)]; rfl
  rw [e, List.getD_eq_getElem?_getD, List.getElem?_eq_getElem h]; rfl

/-! ### going round -/
def cyc (a b c : Nat) : Prop := (a < b ∧ b < c) ∨ (b < c ∧ c < a) ∨ (c < a ∧ a < b)
instance (a b c : Nat) : Decidable (cyc a b c) := inferInstanceAs (Decidable (_ ∨ _))
theorem cyc_flip {a b c : Nat} (h1 : a ≠ b) (h2 : a ≠ c) (h3 : b ≠ c) : cyc a b c ↔ ¬ cyc a c b := by unfold cyc; omega
theorem cyc_trans {a b c d : Nat} (h1 : cyc a b c) (h2 : cyc a c d) : cyc a b d := by unfold cyc at *; omega
/-- two chords (a, b), (c, d) cross: just one of c, d lies between -/
def btw (a b c : Nat) : Bool := decide (min a b < c ∧ c < max a b)
def crs (a b c d : Nat) : Bool := btw a b c != btw a b d
theorem crs_iff {a b c d : Nat} : crs a b c d = true ↔ ¬ ((min a b < c ∧ c < max a b) ↔ (min a b < d ∧ d < max a b)) := by
  unfold crs btw
  by_cases h1 : (min a b < c ∧ c < max a b) <;> by_cases h2 : (min a b < d ∧ d < max a b) <;> simp [h1, h2]
/-- four unlike ends -/
theorem crs_free' {a b c d : Nat} (nab : a ≠ b) (nac : a ≠ c) (nad : a ≠ d) (nbc : b ≠ c) (nbd : b ≠ d) :
    crs a b c d = true ↔ ¬ (cyc a c b ↔ cyc a d b) := by
  rw [crs_iff]
  rcases Nat.lt_or_gt_of_ne nab with h | h
  · rw [show min a b = a by omega, show max a b = b by omega]
    have e1 : cyc a c b ↔ (a < c ∧ c < b) := by unfold cyc; omega
    have e2 : cyc a d b ↔ (a < d ∧ d < b) := by unfold cyc; omega
    rw [e1, e2]
  · rw [show min a b = b by omega, show max a b = a by omega]
    have e1 : cyc a c b ↔ ¬ (b < c ∧ c < a) := by unfold cyc; omega
    have e2 : cyc a d b ↔ ¬ (b < d ∧ d < a) := by unfold cyc; omega
    rw [e1, e2]
    by_cases p : (b < c ∧ c < a) <;> by_cases q : (b < d ∧ d < a) <;> simp [p, q]
theorem cyc_iso {a b c A B C : Nat} (hab : A < B ↔ a < b) (hbc : B < C ↔ b < c) (hca : C < A ↔ c < a) : cyc A B C ↔ cyc a b c := by
  unfold cyc; rw [hab, hbc, hca]
/-- both begin at one end (a, c), and part -/
theorem crs_fin {a b c d A B D : Nat} (h1 : A < B → a < b ∧ c < b) (h2 : B < A → b < a ∧ b < c) (h3 : A < D → a < d ∧ c < d) (h4 : D < A → d < a ∧ d < c) (h5 : B < D → b < d) (h6 : D < B → d < b)
    (nab : A ≠ B) (nad : A ≠ D) (nbd : B ≠ D) (mac : a ≠ c) : crs a b c d = true ↔ (a < c ↔ cyc A B D) := by
  rw [crs_iff]; unfold cyc; omega
/-- both go from one end (a, c) to another (b, d) -/
theorem crs_mid {a b c d A B : Nat} (h1 : A < B → a < b ∧ c < b ∧ a < d ∧ c < d) (h2 : B < A → b < a ∧ b < c ∧ d < a ∧ d < c) (nab : A ≠ B) (mac : a ≠ c) (mbd : b ≠ d) : crs a b c d = true ↔ (a < c ↔ b < d) := by
  rw [crs_iff]; omega
theorem crs_swap {a b c d : Nat} : crs a b c d = crs b a c d := by
  unfold crs btw; rw [Nat.min_comm, Nat.max_comm]
theorem crs_swap2 {a b c d : Nat} : crs a b c d = crs a b d c := by
  unfold crs; cases btw a b c <;> cases btw a b d <;> rfl
theorem crs_symm {a b c d : Nat} (mab : a ≠ b) (mcd : c ≠ d) (mac : a ≠ c) (mad : a ≠ d) (mbc : b ≠ c) (mbd : b ≠ d) : crs a b c d = crs c d a b := by
  have : crs a b c d = true ↔ crs c d a b = true := by rw [crs_iff, crs_iff]; omega
  cases h1 : crs a b c d <;> cases h2 : crs c d a b <;> simp_all
end Rw


set_option Elab.async false
set_option linter.all false
namespace Rw
abbrev Sd := Nat × Nat
/-- going round the surface -/
def cycS (S : List Nat) (a b c : Nat) : Prop := cyc (S.idxOf a) (S.idxOf b) (S.idxOf c)
instance (S : List Nat) (a b c : Nat) : Decidable (cycS S a b c) := inferInstanceAs (Decidable (cyc _ _ _))
theorem pos_ne {S : List Nat} {a b : Nat} (ha : a ∈ S) (h : a ≠ b) : S.idxOf a ≠ S.idxOf b := fun e => by
  have h1 := List.idxOf_lt_length_iff.mpr ha
  have h2 : S.idxOf b < S.length := e ▸ h1
  have e1 := List.getElem_idxOf h1
  have e2 := List.getElem_idxOf h2
  exact h (by rw [← e1, ← e2]; simp only [e])
/-- the places of the points of a drawing -/
structure Pts (S : List Nat) (Th : Nat → Sd → Prop) (P : Nat → Sd → Nat) : Prop where
  blk : ∀ {e e' s s'}, S.idxOf e < S.idxOf e' → Th e s → Th e' s' → P e s < P e' s'
  inj : ∀ {e s s'}, Th e s → Th e s' → s ≠ s' → P e s ≠ P e s'
  flip : ∀ {e s s'}, Th e s → Th e s' → s ≠ s' → (P e s < P e s' ↔ P (bk e) s' < P (bk e) s)
/-- a way gone along, from some place on, forwards or backwards -/
structure Line (S : List Nat) (Th : Nat → Sd → Prop) (u : Int → Nat) (s : Int → Sd) : Prop where
  lt : ∀ t, Lt (u t)
  mem : ∀ t, u t ∈ S
  memB : ∀ t, bk (u t) ∈ S
  th : ∀ t, Th (u t) (s t)
  thB : ∀ t, Th (bk (u t)) (s t)
  red : ∀ t, u (t + 1) ≠ bk (u t)
section
variable {S : List Nat} {Th : Nat → Sd → Prop} {P : Nat → Sd → Nat} {u v : Int → Nat} {x y : Int → Sd}
/-- whether the chords at t cross -/
def crossL (P : Nat → Sd → Nat) (u v : Int → Nat) (x y : Int → Sd) (t : Int) : Bool :=
  crs (P (bk (u t)) (x t)) (P (u (t + 1)) (x (t + 1))) (P (bk (v t)) (y t)) (P (v (t + 1)) (y (t + 1)))
/-- the order in the band at t -/
def ordL (P : Nat → Sd → Nat) (u : Int → Nat) (x y : Int → Sd) (t : Int) : Prop := P (u t) (x t) < P (u t) (y t)
theorem Pts.far (p : Pts S Th P) {e e' : Nat} {s s' r r' : Sd} (he : e ∈ S) (h : e ≠ e') (h1 : Th e s) (h2 : Th e' s') (h3 : Th e r) (h4 : Th e' r') :
    (S.idxOf e < S.idxOf e' ∧ P e s < P e' s' ∧ P e r < P e' s' ∧ P e s < P e' r' ∧ P e r < P e' r') ∨ (S.idxOf e' < S.idxOf e ∧ P e' s' < P e s ∧ P e' s' < P e r ∧ P e' r' < P e s ∧ P e' r' < P e r) := by
  rcases Nat.lt_or_gt_of_ne (pos_ne he h) with q | q
  · exact .inl ⟨q, p.blk q h1 h2, p.blk q h3 h2, p.blk q h1 h4, p.blk q h3 h4⟩
  · exact .inr ⟨q, p.blk q h2 h1, p.blk q h2 h3, p.blk q h4 h1, p.blk q h4 h3⟩
theorem cross_fin (p : Pts S Th P) (L : Line S Th u x) (M : Line S Th v y) {t : Int} (h : u t = v t) (h' : u (t + 1) ≠ v (t + 1)) (d : x t ≠ y t) :
    crossL P u v x y t = true ↔ ¬ (ordL P u x y t ↔ cycS S (bk (u t)) (u (t + 1)) (v (t + 1))) := by
  have hb : bk (v t) = bk (u t) := by rw [h]
  have n1 : bk (u t) ≠ u (t + 1) := (L.red t).symm
  have n2 : bk (u t) ≠ v (t + 1) := by rw [← hb]; exact (M.red t).symm
  have tv : Th (u t) (y t) := by rw [h]; exact M.th t
  have tvB : Th (bk (u t)) (y t) := by rw [h]; exact M.thB t
  have f1 := p.far (L.memB t) n1 (L.thB t) (L.th (t + 1)) tvB (L.th (t + 1))
  have f2 := p.far (L.memB t) n2 (L.thB t) (M.th (t + 1)) tvB (M.th (t + 1))
  have f3 := p.far (L.mem (t + 1)) h' (L.th (t + 1)) (M.th (t + 1)) (L.th (t + 1)) (M.th (t + 1))
  have i1 := p.inj (L.thB t) tvB d
  have fl := p.flip (L.th t) tv d
  have e := crs_fin (a := P (bk (u t)) (x t)) (b := P (u (t + 1)) (x (t + 1))) (c := P (bk (u t)) (y t)) (d := P (v (t + 1)) (y (t + 1))) (A := S.idxOf (bk (u t))) (B := S.idxOf (u (t + 1))) (D := S.idxOf (v (t + 1)))
    (by omega) (by omega) (by omega) (by omega) (by omega) (by omega) (by omega) (by omega) (by omega) i1
  unfold crossL ordL cycS
  rw [hb, e, fl]
  have k : P (bk (u t)) (x t) < P (bk (u t)) (y t) ↔ ¬ P (bk (u t)) (y t) < P (bk (u t)) (x t) := by omega
  rw [k]
  by_cases q1 : P (bk (u t)) (y t) < P (bk (u t)) (x t) <;> by_cases q2 : cyc (S.idxOf (bk (u t))) (S.idxOf (u (t + 1))) (S.idxOf (v (t + 1))) <;> simp [q1, q2]
theorem cross_mid (p : Pts S Th P) (L : Line S Th u x) (M : Line S Th v y) {t : Int} (h : u t = v t) (h' : u (t + 1) = v (t + 1)) (d : x t ≠ y t) (d' : x (t + 1) ≠ y (t + 1)) :
    crossL P u v x y t = true ↔ ¬ (ordL P u x y t ↔ ordL P u x y (t + 1)) := by
  have hb : bk (v t) = bk (u t) := by rw [h]
  have n1 : bk (u t) ≠ u (t + 1) := (L.red t).symm
  have tv : Th (u t) (y t) := by rw [h]; exact M.th t
  have tvB : Th (bk (u t)) (y t) := by rw [h]; exact M.thB t
  have tv' : Th (u (t + 1)) (y (t + 1)) := by rw [h']; exact M.th (t + 1)
  have f1 := p.far (L.memB t) n1 (L.thB t) (L.th (t + 1)) tvB tv'
  have i1 := p.inj (L.thB t) tvB d
  have i2 := p.inj (L.th (t + 1)) tv' d'
  have fl := p.flip (L.th t) tv d
  have e := crs_mid (a := P (bk (u t)) (x t)) (b := P (u (t + 1)) (x (t + 1))) (c := P (bk (u t)) (y t)) (d := P (u (t + 1)) (y (t + 1))) (A := S.idxOf (bk (u t))) (B := S.idxOf (u (t + 1)))
    (by omega) (by omega) (by omega) i1 i2
  unfold crossL ordL
  rw [hb, ← h', e, fl]
  have k : P (bk (u t)) (x t) < P (bk (u t)) (y t) ↔ ¬ P (bk (u t)) (y t) < P (bk (u t)) (x t) := by omega
  rw [k]
  by_cases q1 : P (bk (u t)) (y t) < P (bk (u t)) (x t) <;> by_cases q2 : P (u (t + 1)) (x (t + 1)) < P (u (t + 1)) (y (t + 1)) <;> simp [q1, q2]
theorem cross_beg (p : Pts S Th P) (L : Line S Th u x) (M : Line S Th v y) {t : Int} (h : u t ≠ v t) (h' : u (t + 1) = v (t + 1)) (d' : x (t + 1) ≠ y (t + 1)) :
    crossL P u v x y t = true ↔ ¬ (¬ cycS S (u (t + 1)) (bk (u t)) (bk (v t)) ↔ ordL P u x y (t + 1)) := by
  have n1 : u (t + 1) ≠ bk (u t) := L.red t
  have n2 : u (t + 1) ≠ bk (v t) := by rw [h']; exact M.red t
  have n3 : bk (u t) ≠ bk (v t) := fun e => h (bk_inj (L.lt t) (M.lt t) e)
  have tv' : Th (u (t + 1)) (y (t + 1)) := by rw [h']; exact M.th (t + 1)
  have f1 := p.far (L.mem (t + 1)) n1 (L.th (t + 1)) (L.thB t) tv' (L.thB t)
  have f2 := p.far (L.mem (t + 1)) n2 (L.th (t + 1)) (M.thB t) tv' (M.thB t)
  have f3 := p.far (L.memB t) n3 (L.thB t) (M.thB t) (L.thB t) (M.thB t)
  have i1 := p.inj (L.th (t + 1)) tv' d'
  have e := crs_fin (a := P (u (t + 1)) (x (t + 1))) (b := P (bk (u t)) (x t)) (c := P (u (t + 1)) (y (t + 1))) (d := P (bk (v t)) (y t)) (A := S.idxOf (u (t + 1))) (B := S.idxOf (bk (u t))) (D := S.idxOf (bk (v t)))
    (by omega) (by omega) (by omega) (by omega) (by omega) (by omega) (by omega) (by omega) (by omega) i1
  unfold crossL ordL cycS
  rw [crs_swap, crs_swap2, ← h', e]
  by_cases q1 : P (u (t + 1)) (x (t + 1)) < P (u (t + 1)) (y (t + 1)) <;> by_cases q2 : cyc (S.idxOf (u (t + 1))) (S.idxOf (bk (u t))) (S.idxOf (bk (v t))) <;> simp [q1, q2]
/-- four unlike ends -/
theorem cross_free (p : Pts S Th P) (L : Line S Th u x) (M : Line S Th v y) {t r : Int} (h1 : bk (u t) ≠ bk (v r)) (h2 : bk (u t) ≠ v (r + 1)) (h3 : u (t + 1) ≠ bk (v r)) (h4 : u (t + 1) ≠ v (r + 1)) :
    crs (P (bk (u t)) (x t)) (P (u (t + 1)) (x (t + 1))) (P (bk (v r)) (y r)) (P (v (r + 1)) (y (r + 1))) = true ↔ ¬ (cycS S (bk (u t)) (bk (v r)) (u (t + 1)) ↔ cycS S (bk (u t)) (v (r + 1)) (u (t + 1))) := by
  have n1 : bk (u t) ≠ u (t + 1) := (L.red t).symm
  have f1 := p.far (L.memB t) n1 (L.thB t) (L.th (t + 1)) (L.thB t) (L.th (t + 1))
  have f2 := p.far (L.memB t) h1 (L.thB t) (M.thB r) (L.thB t) (M.thB r)
  have f3 := p.far (L.memB t) h2 (L.thB t) (M.th (r + 1)) (L.thB t) (M.th (r + 1))
  have f4 := p.far (L.mem (t + 1)) h3 (L.th (t + 1)) (M.thB r) (L.th (t + 1)) (M.thB r)
  have f5 := p.far (L.mem (t + 1)) h4 (L.th (t + 1)) (M.th (r + 1)) (L.th (t + 1)) (M.th (r + 1))
  have e1 : cyc (S.idxOf (bk (u t))) (S.idxOf (bk (v r))) (S.idxOf (u (t + 1))) ↔ cyc (P (bk (u t)) (x t)) (P (bk (v r)) (y r)) (P (u (t + 1)) (x (t + 1))) := cyc_iso (by omega) (by omega) (by omega)
  have e2 : cyc (S.idxOf (bk (u t))) (S.idxOf (v (r + 1))) (S.idxOf (u (t + 1))) ↔ cyc (P (bk (u t)) (x t)) (P (v (r + 1)) (y (r + 1))) (P (u (t + 1)) (x (t + 1))) := cyc_iso (by omega) (by omega) (by omega)
  unfold cycS
  rw [crs_free' (by omega) (by omega) (by omega) (by omega) (by omega), e1, e2]
end
end Rw


set_option Elab.async false
set_option linter.all false
namespace Rw
abbrev Ws := List (List Nat)
def low (c : Nat) : Nat := if c < 97 then c + 32 else c
def backW (w : List Nat) : List Nat := w.reverse.map bk
def wy (W : Ws) (i : Nat) : List Nat := W.getD i []
/-- the letter of strand s moved by k -/
def lat (W : Ws) (s : Sd) (k : Int) : Nat := atW (wy W s.1) ((s.2 : Int) + k)
def mv (W : Ws) (s : Sd) (k : Int) : Sd := (s.1, (((s.2 : Int) + k) % ((wy W s.1).length : Int)).toNat)
def strandsOf (W : Ws) : List Sd := (List.range W.length).flatMap fun i => (List.range (wy W i).length).map fun p => (i, p)
def isS (W : Ws) (s : Sd) : Prop := s.1 < W.length ∧ s.2 < (wy W s.1).length
def throughN (W : Ws) (n : Nat) : List Sd := (strandsOf W).filter fun s => decide (low (lat W s 0) = 97 + n)
def room (W : Ws) (x y : Sd) : Nat := (wy W x.1).length + (wy W y.1).length
/-- going round from b on, o comes ahead of r -/
def cf (S : List Nat) (b o r : Nat) : Bool :=
  decide ((S.drop (S.idxOf b) ++ S.take (S.idxOf b)).idxOf o < (S.drop (S.idxOf b) ++ S.take (S.idxOf b)).idxOf r)
def slt (x y : Sd) : Bool := decide (x.1 < y.1 ∨ x.1 = y.1 ∧ x.2 < y.2)
def isBeside (S : List Nat) (W : Ws) (x y : Sd) : Bool :=
  slt x y && decide ([bk (lat W x 0), lat W x 1, bk (lat W y 0), lat W y 1].Nodup) &&
    (cf S (bk (lat W x 0)) (bk (lat W y 0)) (lat W x 1) != cf S (bk (lat W x 0)) (lat W y 1) (lat W x 1))
def isAlong (S : List Nat) (W : Ws) (x y : Sd) (m : Nat) : Bool :=
  slt x y && decide (m ≤ room W x y) && (List.range m).all (fun k => decide (lat W x k = lat W y k)) && decide (lat W x (-1) ≠ lat W y (-1)) && decide (lat W x m ≠ lat W y m) &&
    (cf S (bk (lat W x ((m : Int) - 1))) (lat W x m) (lat W y m) == cf S (lat W x 0) (bk (lat W x (-1))) (bk (lat W y (-1))))
def isAgainst (S : List Nat) (W : Ws) (x y : Sd) (m : Nat) : Bool :=
  slt x (mv W y (1 - (m : Int))) && decide (m ≤ room W x y) && (List.range m).all (fun k => decide (lat W x k = bk (lat W y (-(k : Int))))) && decide (lat W x (-1) ≠ bk (lat W y 1)) && decide (lat W x m ≠ bk (lat W y (-(m : Int)))) &&
    (cf S (bk (lat W x ((m : Int) - 1))) (lat W x m) (bk (lat W y (-(m : Int)))) == cf S (lat W x 0) (bk (lat W x (-1))) (lat W y 1))
/-- how long f holds from k on, at most up to n -/
def runUp (f : Nat → Bool) : Nat → Nat → Nat
  | 0, k => k
  | n + 1, k => if f k then runUp f n (k + 1) else k
def runAlong (W : Ws) (x y : Sd) : Nat := runUp (fun k => decide (lat W x k = lat W y k)) (room W x y) 0
def runAgainst (W : Ws) (x y : Sd) : Nat := runUp (fun k => decide (lat W x k = bk (lat W y (-(k : Int))))) (room W x y) 0
/-- a link -/
inductive Lk where
  | beside (x y : Sd)
  | along (x y : Sd) (m : Nat)
  | against (x y : Sd) (m : Nat)
deriving DecidableEq
def isLink (S : List Nat) (W : Ws) : Lk → Bool
  | .beside x y => isBeside S W x y
  | .along x y m => decide (0 < m) && isAlong S W x y m
  | .against x y m => decide (0 < m) && isAgainst S W x y m
def linksOf (S : List Nat) (W : Ws) (x y : Sd) : List Lk := [Lk.beside x y, .along x y (runAlong W x y), .against x y (runAgainst W x y)].filter (isLink S W)
def linksL (S : List Nat) (W : Ws) (i j : Nat) : List Lk := (List.range (wy W i).length).flatMap fun p => (List.range (wy W j).length).flatMap fun q => linksOf S W (i, p) (j, q)
/-! tight -/
def met (W : Ws) (x : Sd) (k : Int) : Nat := if 97 ≤ lat W x 0 then lat W x k else bk (lat W x (-k))
def runOn (W : Ws) (x y : Sd) (d : Int) : Nat := runUp (fun k => decide (met W x (d * ((k : Int) + 1)) = met W y (d * ((k : Int) + 1)))) (room W x y) 0
def smin (x y : Sd) : Sd := if slt y x then y else x
def sFirst (S : List Nat) (W : Ws) (x y : Sd) : Bool :=
  let a : Int := runOn W x y 1
  let b : Int := runOn W x y (-1)
  if a = (room W x y : Int) then slt x y == decide (97 ≤ lat W (smin x y) 0)
  else if a ≤ b then cf S (bk (met W x a)) (met W x (a + 1)) (met W y (a + 1))
  else cf S (met W x (-b)) (bk (met W y (-b - 1))) (bk (met W x (-b - 1)))
/-- placed ahead of the first that does not stand first -/
def place (r : Sd → Sd → Bool) (x : Sd) : List Sd → List Sd
  | [] => [x]
  | y :: ys => if r y x then y :: place r x ys else x :: y :: ys
def orderOf (S : List Nat) (W : Ws) (xs : List Sd) : List Sd := xs.foldl (fun acc x => place (sFirst S W) x acc) []
abbrev Dw := List (List Sd)
def tightM (S : List Nat) (W : Ws) : Dw := (List.range (S.length / 2)).map fun n => orderOf S W (throughN W n)
/-! drawings -/
abbrev Spt := Nat × Sd
def rowAt (D : Dw) (n : Nat) : List Sd := D.getD n []
def spotsM (S : List Nat) (D : Dw) : List Spt := S.flatMap fun e => (if 97 ≤ e then rowAt D (low e - 97) else (rowAt D (low e - 97)).reverse).map fun s => (e, s)
structure Chd where
  s : Sd
  a : Nat
  b : Nat
def chordM (S : List Nat) (W : Ws) (D : Dw) (s : Sd) : Chd := ⟨s, (spotsM S D).idxOf (bk (lat W s 0), s), (spotsM S D).idxOf (lat W s 1, mv W s 1)⟩
def crossM (c d : Chd) : Bool := crs c.a c.b d.a d.b
def pairsUp {α : Type} : List α → List (α × α)
  | [] => []
  | x :: xs => xs.map (fun y => (x, y)) ++ pairsUp xs
def crossingsM (S : List Nat) (W : Ws) (D : Dw) : List (Sd × Sd) := ((pairsUp ((strandsOf W).map (chordM S W D))).filter fun p => crossM p.1 p.2).map fun p => (p.1.s, p.2.s)
def pairIs (i j : Nat) (p : Sd × Sd) : Bool := decide (p.1.1 = i ∧ p.2.1 = j ∨ p.1.1 = j ∧ p.2.1 = i)
def countM (F : List (Sd × Sd)) (i j : Nat) : Nat := (F.filter (pairIs i j)).length
def everyOrder (xs : List Sd) : List (List Sd) := xs.foldl (fun found x => found.flatMap fun row => (List.range (row.length + 1)).map fun k => row.take k ++ [x] ++ row.drop k) [[]]
def everyDrawing (S : List Nat) (W : Ws) : List Dw := (List.range (S.length / 2)).foldl (fun found n => found.flatMap fun rows => (everyOrder (throughN W n)).map fun o => rows ++ [o]) [[]]
def fact : Nat → Nat
  | 0 => 1
  | n + 1 => fact n * (n + 1)
def howMany (S : List Nat) (W : Ws) : Nat := (List.range (S.length / 2)).foldl (fun f n => f * fact ((W.flatten.filter fun c => decide (low c = 97 + n)).length)) 1
/-! what the law draws -/
structure SurfOk (S : List Nat) (m : Nat) : Prop where
  m1 : 1 ≤ m
  m6 : m ≤ 6
  len : S.length = 2 * m
  nd : S.Nodup
  mem : ∀ c, c ∈ S ↔ (97 ≤ c ∧ c < 97 + m) ∨ (65 ≤ c ∧ c < 65 + m)
structure WayOk (m : Nat) (w : List Nat) : Prop where
  ne : w ≠ []
  len : w.length ≤ 6
  lt : ∀ c ∈ w, (97 ≤ c ∧ c < 97 + m) ∨ (65 ≤ c ∧ c < 65 + m)
  red : ∀ t, atW w (t + 1) ≠ bk (atW w t)
  prim : ∀ k : Nat, 0 < k → k < w.length → k ∣ w.length → ∃ t, atW w (t + (k : Int)) ≠ atW w t
structure WaysOk (m : Nat) (W : Ws) : Prop where
  ne : W ≠ []
  len : W.length ≤ 3
  ok : ∀ w ∈ W, WayOk m w
end Rw


set_option Elab.async false
set_option linter.all false
namespace Rw
def mulW (w : List Nat) (n : Nat) : List Nat := (List.replicate n w).flatten
/-- no sign next to its back -/
def Fr (l : List Nat) : Prop := ∀ i a b, l[i]? = some a → l[i + 1]? = some b → b ≠ bk a
/-- reduced, round about too -/
structure Rd' (v : List Nat) : Prop where
  fr : Fr v
  ends : 1 < v.length → v.headD 0 ≠ bk (v.getLastD 0)
/-- v is the root of x -/
structure Root (x v : List Nat) : Prop where
  is : v = x ∨ ∃ k, 1 ≤ k ∧ k < x.length ∧ v = x.take k ∧ mulW v (x.length / k) = x
  least : ∀ k, 1 ≤ k → k < v.length → mulW (x.take k) (x.length / k) ≠ x
theorem mulW_length (w : List Nat) (n : Nat) : (mulW w n).length = n * w.length := by
  unfold mulW
  rw [List.length_flatten, List.map_replicate, List.sum_replicate_nat]
theorem mulW_succ (w : List Nat) (n : Nat) : mulW w (n + 1) = w ++ mulW w n := by
  unfold mulW
  rw [List.replicate_succ, List.flatten_cons]
theorem mulW_at (w : List Nat) : ∀ (n i : Nat), i < n * w.length → (mulW w n)[i]? = w[i % w.length]?
  | 0, i, h => by omega
  | n + 1, i, h => by
    rw [mulW_succ]
    by_cases hi : i < w.length
    · rw [List.getElem?_append_left hi, Nat.mod_eq_of_lt hi]
    · rw [List.getElem?_append_right (by omega), mulW_at w n (i - w.length) (by rw [Nat.add_mul] at h; omega)]
      rw [Nat.mod_eq_sub_mod (a := i) (by omega)]
theorem atW_ge {w : List Nat} (hw : w ≠ []) (t : Int) : w[(t % (w.length : Int)).toNat]? = some (atW w t) := by
  unfold atW
  rw [List.getD_eq_getElem?_getD, List.getElem?_eq_getElem (ix_lt hw t)]
  rfl
theorem pos_len {w : List Nat} (hw : w ≠ []) : 0 < w.length := List.length_pos_iff.mpr hw
theorem atW_lt {w : List Nat} {i : Nat} (h : i < w.length) : w[i]? = some (atW w (i : Int)) := by
  rw [atW_nat h, List.getElem?_eq_getElem h]
theorem atW_mul {w : List Nat} {n : Nat} (hw : w ≠ []) (hn : 1 ≤ n) (t : Int) : atW (mulW w n) t = atW w t := by
  have hp := pos_len hw
  have hl : 0 < n * w.length := Nat.mul_pos hn hp
  have hne : mulW w n ≠ [] := fun z => by
    have := mulW_length w n
    rw [z] at this
    rw [← this] at hl
    exact Nat.lt_irrefl 0 hl
  have h1 := atW_ge hne t
  have h2 := atW_ge hw t
  have hix := ix_lt hne t
  rw [mulW_length] at h1 hix
  rw [mulW_at w n _ hix] at h1
  have e : (t % ((n * w.length : Nat) : Int)).toNat % w.length = (t % (w.length : Int)).toNat := by
    have a1 := Int.emod_nonneg t (b := ((n * w.length : Nat) : Int)) (by omega)
    have a2 : (t % ((n * w.length : Nat) : Int)) % (w.length : Int) = t % (w.length : Int) := Int.emod_emod_of_dvd t ⟨(n : Int), by rw [Int.natCast_mul, Int.mul_comm]⟩
    have a3 := Int.emod_nonneg t (b := (w.length : Int)) (by omega)
    have a4 : (((t % ((n * w.length : Nat) : Int)).toNat % w.length : Nat) : Int) = t % (w.length : Int) := by
      rw [Int.natCast_emod, Int.toNat_of_nonneg a1, a2]
    omega
  rw [e, h2] at h1
  exact (Option.some.inj h1).symm
theorem per_mul {x : List Nat} {k : Nat} (h : ∀ t, atW x (t + (k : Int)) = atW x t) : ∀ (j : Nat) (t : Int), atW x (t + (k : Int) * (j : Int)) = atW x t
  | 0, t => by rw [show t + (k : Int) * ((0 : Nat) : Int) = t by simp]
  | j + 1, t => by
    rw [show t + (k : Int) * ((j + 1 : Nat) : Int) = (t + (k : Int) * (j : Int)) + (k : Int) by rw [Int.natCast_add, Int.mul_add]; omega, h, per_mul h j]
theorem per_root {x : List Nat} {k : Nat} (hx : x ≠ []) (hk : 1 ≤ k) (hd : k ∣ x.length) (h : ∀ t, atW x (t + (k : Int)) = atW x t) : mulW (x.take k) (x.length / k) = x := by
  have hp := pos_len hx
  have hkx : k ≤ x.length := Nat.le_of_dvd hp hd
  have el : (x.take k).length = k := by rw [List.length_take]; omega
  have hq : x.length / k * k = x.length := Nat.div_mul_cancel hd
  refine List.ext_getElem? fun i => ?_
  by_cases hi : i < x.length
  · have hlt : i % k < k := Nat.mod_lt _ hk
    rw [mulW_at _ _ _ (by rw [el, hq]; exact hi), el, List.getElem?_take, if_pos hlt, atW_lt (i := i % k) (by omega), atW_lt hi]
    congr 1
    have e := per_mul h (i / k) ((i % k : Nat) : Int)
    rw [← e]
    congr 1
    have e2 := Nat.mod_add_div i k
    rw [← Int.natCast_mul, ← Int.natCast_add, e2]
  · rw [List.getElem?_eq_none (by rw [mulW_length, el, hq]; omega), List.getElem?_eq_none (by omega)]
theorem red_of {v : List Nat} (h : Rd' v) (hne : v ≠ []) (hl : ∀ c ∈ v, Lt c) (t : Int) : atW v (t + 1) ≠ bk (atW v t) := by
  have hp := pos_len hne
  have hi := ix_lt hne t
  have e1 := atW_ge hne t
  have a1 := Int.emod_nonneg t (b := (v.length : Int)) (by omega)
  generalize hI : (t % (v.length : Int)).toNat = i at e1 hi
  have ht : t % (v.length : Int) = (i : Int) := by omega
  have et : (t + 1) % (v.length : Int) = ((i : Int) + 1) % (v.length : Int) := by rw [← Int.emod_add_emod, ht]
  by_cases hc : i + 1 < v.length
  · have e2 := atW_ge hne (t + 1)
    rw [et, Int.emod_eq_of_lt (by omega) (by omega), show ((i : Int) + 1).toNat = i + 1 by omega] at e2
    exact h.fr i _ _ e1 e2
  · have e2 := atW_ge hne (t + 1)
    have hiv : i + 1 = v.length := by omega
    rw [et, show ((i : Int) + 1) = (v.length : Int) by omega, Int.emod_self] at e2
    have h0 : v[0]? = some (v.headD 0) := by
      cases v with
      | nil => exact absurd rfl hne
      | cons c r => rfl
    have hla : v[i]? = some (v.getLastD 0) := by
      rw [List.getLastD_eq_getLast?, List.getLast?_eq_getElem?, show v.length - 1 = i by omega, List.getElem?_eq_getElem hi]
      rfl
    rw [hla] at e1
    have e2' : v[0]? = some (atW v (t + 1)) := e2
    rw [h0] at e2'
    rw [← Option.some.inj e1, ← Option.some.inj e2']
    by_cases h1 : 1 < v.length
    · exact h.ends h1
    · have i0 : i = 0 := by omega
      subst i0
      rw [h0] at hla
      rw [← Option.some.inj hla]
      refine (bk_ne (hl _ (List.mem_of_getElem? h0))).symm
theorem root_mul {x v : List Nat} (h : Root x v) (hx : x ≠ []) : v ≠ [] ∧ ∃ n, 1 ≤ n ∧ mulW v n = x := by
  rcases h.is with rfl | ⟨k, h1, h2, rfl, h4⟩
  · refine ⟨hx, 1, Nat.le_refl 1, ?_⟩
    rw [mulW_succ]
    show v ++ mulW v 0 = v
    unfold mulW
    rw [List.replicate_zero, List.flatten_nil, List.append_nil]
  · have hp := pos_len hx
    refine ⟨fun z => ?_, x.length / k, Nat.div_pos (by omega) h1, h4⟩
    have := congrArg List.length z
    rw [List.length_take, List.length_nil] at this
    omega
theorem root_way {m : Nat} {x v : List Nat} (h : Root x v) (hx : x ≠ []) (hr : Rd' x) (hl : ∀ c ∈ x, (97 ≤ c ∧ c < 97 + m) ∨ (65 ≤ c ∧ c < 65 + m)) (hm : m ≤ 6) (h6 : x.length ≤ 6) : WayOk m v := by
  obtain ⟨hv, n, hn, e⟩ := root_mul h hx
  have hLt : ∀ c ∈ x, Lt c := fun c hc => by have := hl c hc; unfold Lt; omega
  have hlen : x.length = n * v.length := by rw [← e, mulW_length]
  have sub : ∀ c ∈ v, c ∈ x := fun c hc => by
    rcases h.is with rfl | ⟨k, _, _, rfl, _⟩
    · exact hc
    · exact List.mem_of_mem_take hc
  have le : v.length ≤ x.length := by rw [hlen]; exact Nat.le_mul_of_pos_left _ hn
  refine ⟨hv, by omega, fun c hc => hl c (sub c hc), fun t => ?_, fun k h0 h1 h2 => ?_⟩
  · have := red_of hr hx hLt t
    rw [← e, atW_mul hv hn, atW_mul hv hn] at this
    exact this
  · refine Classical.byContradiction fun no => ?_
    refine h.least k h0 h1 (per_root hx h0 ?_ fun t => ?_)
    · rw [hlen]
      exact Nat.dvd_trans h2 (Nat.dvd_mul_left ..)
    · rw [← e, atW_mul hv hn, atW_mul hv hn]
      exact Classical.byContradiction fun z => no ⟨t, z⟩
/-- gone round -/
theorem atW_rot {w : List Nat} {k : Nat} (hk : k < w.length) (t : Int) : atW (w.drop k ++ w.take k) t = atW w (t + (k : Int)) := by
  have hw : w ≠ [] := fun z => by rw [z] at hk; exact Nat.not_lt_zero _ hk
  have el : (w.drop k ++ w.take k).length = w.length := by rw [List.length_append, List.length_drop, List.length_take]; omega
  have hne : w.drop k ++ w.take k ≠ [] := fun z => by
    have := congrArg List.length z
    rw [el] at this
    rw [List.length_nil] at this
    omega
  have h1 := atW_ge hne t
  have h2 := atW_ge hw (t + (k : Int))
  have hix := ix_lt hne t
  rw [el] at h1 hix
  have a1 := Int.emod_nonneg t (b := (w.length : Int)) (by omega)
  generalize hI : (t % (w.length : Int)).toNat = i at h1 hix
  have ht : t % (w.length : Int) = (i : Int) := by omega
  have et : (t + (k : Int)) % (w.length : Int) = ((i : Int) + (k : Int)) % (w.length : Int) := by rw [← Int.emod_add_emod, ht]
  rw [et] at h2
  by_cases hc : i + k < w.length
  · rw [Int.emod_eq_of_lt (by omega) (by omega), show ((i : Int) + (k : Int)).toNat = k + i by omega] at h2
    rw [List.getElem?_append_left (by rw [List.length_drop]; omega), List.getElem?_drop, h2] at h1
    exact (Option.some.inj h1).symm
  · have em : ((i : Int) + (k : Int)) % (w.length : Int) = (i : Int) + (k : Int) - (w.length : Int) := by
      rw [← Int.sub_emod_right, Int.emod_eq_of_lt (by omega) (by omega)]
    rw [em, show ((i : Int) + (k : Int) - (w.length : Int)).toNat = i - (w.length - k) by omega] at h2
    rw [List.getElem?_append_right (by rw [List.length_drop]; omega), List.length_drop, List.getElem?_take, if_pos (by omega), h2] at h1
    exact (Option.some.inj h1).symm
theorem way_rot {m : Nat} {w : List Nat} {k : Nat} (h : WayOk m w) (hk : k < w.length) : WayOk m (w.drop k ++ w.take k) := by
  have el : (w.drop k ++ w.take k).length = w.length := by rw [List.length_append, List.length_drop, List.length_take]; omega
  refine ⟨fun z => ?_, by rw [el]; exact h.len, fun c hc => ?_, fun t => ?_, fun j h0 h1 h2 => ?_⟩
  · have := congrArg List.length z
    rw [el, List.length_nil] at this
    omega
  · rcases List.mem_append.mp hc with hc | hc
    · exact h.lt c (List.mem_of_mem_drop hc)
    · exact h.lt c (List.mem_of_mem_take hc)
  · rw [atW_rot hk, atW_rot hk, show t + 1 + (k : Int) = t + (k : Int) + 1 by omega]
    exact h.red _
  · rw [el] at h1 h2
    obtain ⟨t, ht⟩ := h.prim j h0 h1 h2
    refine ⟨t - (k : Int), ?_⟩
    rw [atW_rot hk, atW_rot hk, show t - (k : Int) + (j : Int) + (k : Int) = t + (j : Int) by omega, show t - (k : Int) + (k : Int) = t by omega]
    exact ht
/-- gone back -/
theorem backW_len (w : List Nat) : (backW w).length = w.length := by unfold backW; rw [List.length_map, List.length_reverse]
theorem atW_back {w : List Nat} (hw : w ≠ []) (t : Int) : atW (backW w) t = bk (atW w (-1 - t)) := by
  have hp := pos_len hw
  have hne : backW w ≠ [] := fun z => by
    have := congrArg List.length z
    rw [backW_len, List.length_nil] at this
    omega
  have h1 := atW_ge hne t
  have h2 := atW_ge hw (-1 - t)
  have hix := ix_lt hne t
  rw [backW_len] at h1 hix
  have a1 := Int.emod_nonneg t (b := (w.length : Int)) (by omega)
  generalize hI : (t % (w.length : Int)).toNat = i at h1 hix
  have ht : t % (w.length : Int) = (i : Int) := by omega
  have et : (-1 - t) % (w.length : Int) = (w.length : Int) - 1 - (i : Int) := by
    have : (-1 - t) % (w.length : Int) = (-1 - (i : Int)) % (w.length : Int) := by
      rw [Int.sub_emod, ht, ← Int.sub_emod_emod (-1) (i : Int), Int.emod_eq_of_lt (a := (i : Int)) (by omega) (by omega), Int.emod_sub_emod]
    rw [this, ← Int.add_emod_right, Int.emod_eq_of_lt (by omega) (by omega)]
    omega
  rw [et, show ((w.length : Int) - 1 - (i : Int)).toNat = w.length - 1 - i by omega] at h2
  unfold backW at h1
  rw [List.getElem?_map, List.getElem?_reverse (by omega), h2] at h1
  exact (Option.some.inj h1).symm
theorem way_lt {m : Nat} {w : List Nat} (h : WayOk m w) (hm : m ≤ 6) (t : Int) : Lt (atW w t) := by
  have := h.lt _ (atW_mem h.ne t)
  unfold Lt
  omega
theorem way_back {m : Nat} {w : List Nat} (h : WayOk m w) (hm : m ≤ 6) : WayOk m (backW w) := by
  have hp := pos_len h.ne
  refine ⟨fun z => ?_, by rw [backW_len]; exact h.len, fun c hc => ?_, fun t => ?_, fun j h0 h1 h2 => ?_⟩
  · have := congrArg List.length z
    rw [backW_len, List.length_nil] at this
    omega
  · unfold backW at hc
    obtain ⟨d, hd, rfl⟩ := List.mem_map.mp hc
    have := h.lt d (List.mem_reverse.mp hd)
    unfold bk
    split <;> omega
  · rw [atW_back h.ne, atW_back h.ne, bk_bk (way_lt h hm _)]
    have := h.red (-1 - (t + 1))
    rw [show -1 - (t + 1) + 1 = -1 - t by omega] at this
    exact fun z => this z.symm
  · rw [backW_len] at h1 h2
    obtain ⟨t, ht⟩ := h.prim j h0 h1 h2
    refine ⟨-1 - t - (j : Int), fun z => ht ?_⟩
    rw [atW_back h.ne, atW_back h.ne] at z
    have z2 := bk_inj (way_lt h hm _) (way_lt h hm _) z
    rw [show -1 - (-1 - t - (j : Int) + (j : Int)) = t by omega, show -1 - (-1 - t - (j : Int)) = t + (j : Int) by omega] at z2
    exact z2.symm
end Rw


set_option Elab.async false
set_option linter.all false
namespace Rw
/-- the pairs i ≤ j of ways -/
def pairsTo (n k : Nat) : List (Nat × Nat) := (List.range k).flatMap fun i => (List.range (n - i)).map fun d => (i, i + d)
abbrev pairsIJ (W : Ws) : List (Nat × Nat) := pairsTo W.length W.length
def lkc (S : List Nat) (W : Ws) (p : Nat × Nat) : Nat := (linksL S W p.1 p.2).length
/-- the points of the drawing hold every strand's two ends -/
def Pk (S : List Nat) (W : Ws) (D : Dw) : Prop := ∀ s, isS W s → (bk (lat W s 0), s) ∈ spotsM S D ∧ (lat W s 0, s) ∈ spotsM S D
/-- what the law asks, in plain words -/
structure Good (S : List Nat) (W : Ws) : Prop where
  lo : ∀ D ∈ everyDrawing S W, ∀ p ∈ pairsIJ W, lkc S W p ≤ countM (crossingsM S W D) p.1 p.2
  tin : tightM S W ∈ everyDrawing S W
  teq : ∀ p ∈ pairsIJ W, countM (crossingsM S W (tightM S W)) p.1 p.2 = lkc S W p
  pk : ∀ D ∈ everyDrawing S W, Pk S W D
  few : (everyDrawing S W).length ≤ 720
  row : ∀ D ∈ everyDrawing S W, D.length = S.length / 2 ∧ ∀ r ∈ D, r.length ≤ 1000
theorem pairsTo_succ (n k : Nat) : pairsTo n (k + 1) = pairsTo n k ++ (List.range (n - k)).map fun d => (k, k + d) := by
  unfold pairsTo
  rw [List.range_succ, List.flatMap_append, List.flatMap_singleton]
theorem pairsTo_mem {n k : Nat} {p : Nat × Nat} : p ∈ pairsTo n k ↔ p.1 < k ∧ p.1 ≤ p.2 ∧ p.2 < max n p.1 := by
  unfold pairsTo
  rw [List.mem_flatMap]
  constructor
  · rintro ⟨i, hi, h⟩
    obtain ⟨d, hd, rfl⟩ := List.mem_map.mp h
    have h1 := List.mem_range.mp hi
    have h2 := List.mem_range.mp hd
    exact ⟨h1, by show i ≤ i + d; omega, by show i + d < max n i; omega⟩
  · rintro ⟨h1, h2, h3⟩
    exact ⟨p.1, List.mem_range.mpr h1, List.mem_map.mpr ⟨p.2 - p.1, List.mem_range.mpr (by omega), Prod.ext rfl (by show p.1 + (p.2 - p.1) = p.2; omega)⟩⟩
theorem pairsTo_nodup (n : Nat) : ∀ k, (pairsTo n k).Nodup
  | 0 => List.nodup_nil
  | k + 1 => by
    rw [pairsTo_succ, List.nodup_append]
    refine ⟨pairsTo_nodup n k, ?_, fun a ha b hb => ?_⟩
    · refine List.Pairwise.map _ (fun a b h => ?_) List.nodup_range
      intro z
      have := congrArg Prod.snd z
      exact h (by simpa using this)
    · obtain ⟨d, _, rfl⟩ := List.mem_map.mp hb
      intro z
      have := (pairsTo_mem.mp ha).1
      rw [z] at this
      exact Nat.lt_irrefl k this
/-- every crossing belongs to one pair -/
theorem count_sum {F : List (Sd × Sd)} {n : Nat} (h : ∀ p ∈ F, p.1.1 ≤ p.2.1 ∧ p.2.1 < n) : F.length = ((pairsTo n n).map fun p => countM F p.1 p.2).sum := by
  have one : ∀ (L : List (Nat × Nat)) (q : Sd × Sd) (F : List (Sd × Sd)), (L.map fun p => countM (q :: F) p.1 p.2).sum = (L.map fun p => countM F p.1 p.2).sum + (L.filter fun p => pairIs p.1 p.2 q).length := by
    intro L q F
    induction L with
    | nil => rfl
    | cons p L ih =>
      rw [List.map_cons, List.map_cons, List.sum_cons, List.sum_cons, ih, List.filter_cons]
      have e : countM (q :: F) p.1 p.2 = countM F p.1 p.2 + if pairIs p.1 p.2 q then 1 else 0 := by
        unfold countM
        rw [List.filter_cons]
        split <;> simp
      rw [e]
      split <;> simp <;> omega
  induction F with
  | nil =>
    have : ∀ L : List (Nat × Nat), (L.map fun p => countM ([] : List (Sd × Sd)) p.1 p.2).sum = 0 := by
      intro L
      induction L with
      | nil => rfl
      | cons p L ih => rw [List.map_cons, List.sum_cons, ih]; rfl
    rw [this]; rfl
  | cons q F ih =>
    rw [one, ← ih fun p hp => h p (List.mem_cons_of_mem _ hp), List.length_cons]
    have hq := h q List.mem_cons_self
    have e : ((pairsTo n n).filter fun p => pairIs p.1 p.2 q) = (pairsTo n n).filter fun p => decide (p = (q.1.1, q.2.1)) := by
      refine List.filter_congr fun p hp => ?_
      have := pairsTo_mem.mp hp
      unfold pairIs
      refine decide_eq_decide.mpr ⟨fun z => ?_, fun z => ?_⟩
      · refine Prod.ext ?_ ?_
        · show p.1 = q.1.1
          omega
        · show p.2 = q.2.1
          omega
      · left
        rw [z]
        exact ⟨rfl, rfl⟩
    rw [e]
    congr 1
    have hm : (q.1.1, q.2.1) ∈ pairsTo n n := pairsTo_mem.mpr ⟨by show q.1.1 < n; omega, hq.1, by show q.2.1 < max n q.1.1; omega⟩
    have hc := (pairsTo_nodup n n).count (a := (q.1.1, q.2.1))
    rw [if_pos hm] at hc
    rw [← hc, List.count_eq_length_filter]
    congr 1
    exact List.filter_congr fun p _ => by rw [Bool.eq_iff_iff, beq_iff_eq, decide_eq_true_eq]
end Rw


set_option Elab.async false
set_option linter.all false
set_option maxRecDepth 100000
set_option maxHeartbeats 2000000
/-! A data layer over the hand layer: values are PyData, local lists are owned. -/
namespace Ly
open PySem PySem.Spec PyProof.Rows L2 Evl

/-! ### the weakest readings -/
section
variable {X : Cx}
def wE (X : Cx) (e : Expr) : TE := fun σ H Q => ∀ pins s, Inv X pins σ H s → wpAny (model X.prog X.w) X.A (eval e X.env) (EP X pins σ Q) X.xe s
def wT (X : Cx) (e : Expr) : TT := fun σ H Q => ∀ pins s, Inv X pins σ H s → wpAny (model X.prog X.w) X.A (isTrue e X.env (eval e X.env)) (TP X pins σ Q) X.xe s
def wA (X : Cx) (es : List Expr) : TA := fun σ H Q => ∀ pos pins s, Inv X pins σ H s → wpAny (model X.prog X.w) X.A (spliced (backTo pos (starEach es X.env))) (AP X pins σ Q) X.xe s
def wS (X : Cx) (st : Stmt) : TS := fun D σ H => ∀ pins s, Inv X pins σ H s → wpAny (model X.prog X.w) X.A (exec st X.env) (SP X pins D) X.xe s
def wSs (X : Cx) (sts : List Stmt) : TS := fun D σ H => ∀ pins s, Inv X pins σ H s → wpAny (model X.prog X.w) X.A (execs sts X.env) (SP X pins D) X.xe s
def wI (X : Cx) (tg iter : Expr) : TI := fun σ H R => ∀ pins s, Inv X pins σ H s → wpAny (model X.prog X.w) X.A (eval iter X.env) (fun v s1 => wpAny (model X.prog X.w) X.A (pyIter v) (PIE X pins σ tg R) X.xe s1) X.xe s
theorem pe_w {e : Expr} : PE X e (wE X e) := ⟨fun pins s _ _ _ I h => h pins s I⟩
theorem pt_w {e : Expr} : PT X e (wT X e) := ⟨fun pins s _ _ _ I h => h pins s I⟩
theorem pa_w {es : List Expr} : PA X es (wA X es) := ⟨fun pos pins s _ _ _ I h => h pos pins s I⟩
theorem ps_w {st : Stmt} : PS X st (wS X st) := ⟨fun pins s _ _ _ I h => h pins s I⟩
theorem pss_w {sts : List Stmt} : PSs X sts (wSs X sts) := ⟨fun pins s _ _ _ I h => h pins s I⟩
theorem pi_w {tg iter : Expr} : PI X tg iter (wI X tg iter) := ⟨fun pins s _ _ _ I h => h pins s I⟩
theorem we_of {e : Expr} {t : TE} (h : PE X e t) {σ : L2.St} {H : Hp} {Q : VK} (q : t σ H Q) : wE X e σ H Q := fun pins s I => h.run pins s σ H Q I q
theorem wt_of {e : Expr} {t : TT} (h : PT X e t) {σ : L2.St} {H : Hp} {Q : Bool → Hp → Prop} (q : t σ H Q) : wT X e σ H Q := fun pins s I => h.run pins s σ H Q I q
theorem wa_of {es : List Expr} {t : TA} (h : PA X es t) {σ : L2.St} {H : Hp} {Q : List V → Hp → Prop} (q : t σ H Q) : wA X es σ H Q := fun pos pins s I => h.run pos pins s σ H Q I q
theorem ws_of {st : Stmt} {t : TS} (h : PS X st t) {σ : L2.St} {H : Hp} {D : Ends} (q : t D σ H) : wS X st D σ H := fun pins s I => h.run pins s σ H D I q
theorem wss_of {sts : List Stmt} {t : TS} (h : PSs X sts t) {σ : L2.St} {H : Hp} {D : Ends} (q : t D σ H) : wSs X sts D σ H := fun pins s I => h.run pins s σ H D I q
theorem wi_of {tg iter : Expr} {t : TI} (h : PI X tg iter t) {σ : L2.St} {H : Hp} {R : It → Hp → Prop} (q : t σ H R) : wI X tg iter σ H R := fun pins s I => h.run pins s σ H R I q
/-- .. and they are monotone -/
theorem we_mono {e : Expr} {σ : L2.St} {H : Hp} {Q Q' : VK} (h : wE X e σ H Q) (k : ∀ v H', Q v H' → Q' v H') : wE X e σ H Q' := fun pins s I =>
  thn (h pins s I) fun u s' ⟨v, H', I', r, q⟩ => ⟨v, H', I', r, k v H' q⟩
theorem wt_mono {e : Expr} {σ : L2.St} {H : Hp} {Q Q' : Bool → Hp → Prop} (h : wT X e σ H Q) (k : ∀ v H', Q v H' → Q' v H') : wT X e σ H Q' := fun pins s I =>
  thn (h pins s I) fun u s' ⟨H', I', q⟩ => ⟨H', I', k u H' q⟩
end

end Ly
namespace L2
open PySem PySem.Spec PyProof.Rows Evl
/-! ### data and extensions -/
/-! data whose lists and tuples are all tracked -/
mutual
inductive Dq (H : Hp) : V → PyData → Prop
  | non : Dq H .non .none
  | bl (b : Bool) : Dq H (.bl b) (.bool b)
  | int (i : Int) : Dq H (.int i) (.int i)
  | str (x : Str) : Dq H (.str x) (.str x)
  | lst {a : Addr} {xs : List V} {ds : List PyData} : H a = some (.lst xs) → DqAll H xs ds → Dq H (.ref a) (.list ds)
  | tup {a : Addr} {xs : List V} {ds : List PyData} : H a = some (.tup xs) → DqAll H xs ds → Dq H (.ref a) (.tuple ds)
inductive DqAll (H : Hp) : List V → List PyData → Prop
  | nil : DqAll H [] []
  | cons {v : V} {vs : List V} {d : PyData} {ds : List PyData} : Dq H v d → DqAll H vs ds → DqAll H (v :: vs) (d :: ds)
end
theorem Dq.dp {K : PySem.W.Frag} {H : Hp} {v : V} {d : PyData} (h : Dq H v d) : Dp K H v d := by
  refine Dq.rec (motive_1 := fun v d _ => Dp K H v d) (motive_2 := fun vs ds _ => DpAll K H vs ds) ?_ ?_ ?_ ?_ ?_ ?_ ?_ ?_ h
  · exact .non
  · exact fun b => .bl b
  · exact fun i => .int i
  · exact fun x => .str x
  · exact fun hs _ ih => .lst (SqL.of hs) ih
  · exact fun hs _ ih => .tup (SqT.of hs) ih
  · exact .nil
  · exact fun _ _ i1 i2 => .cons i1 i2
theorem Dq.ex {H H' : Hp} {v : V} {d : PyData} (h : Dq H v d) (e : Ex H H') : Dq H' v d := by
  refine Dq.rec (motive_1 := fun v d _ => Dq H' v d) (motive_2 := fun vs ds _ => DqAll H' vs ds) ?_ ?_ ?_ ?_ ?_ ?_ ?_ ?_ h
  · exact .non
  · exact fun b => .bl b
  · exact fun i => .int i
  · exact fun x => .str x
  · exact fun hs _ ih => .lst (e _ _ hs) ih
  · exact fun hs _ ih => .tup (e _ _ hs) ih
  · exact .nil
  · exact fun _ _ i1 i2 => .cons i1 i2
theorem DqAll.ex {H H' : Hp} (e : Ex H H') : ∀ {vs : List V} {ds : List PyData}, DqAll H vs ds → DqAll H' vs ds
  | _, _, .nil => .nil
  | _, _, .cons h t => .cons (Dq.ex h e) (DqAll.ex e t)
theorem DqAll.length {H : Hp} : ∀ {vs : List V} {ds : List PyData}, DqAll H vs ds → vs.length = ds.length
  | _, _, .nil => rfl
  | _, _, .cons _ t => by rw [List.length_cons, List.length_cons, DqAll.length t]
theorem DqAll.get {H : Hp} : ∀ {vs : List V} {ds : List PyData} {i : Nat} {d : PyData}, DqAll H vs ds → ds[i]? = some d → ∃ v, vs[i]? = some v ∧ Dq H v d
  | _, _, _, _, .nil, e => by simp at e
  | _, _, 0, d, .cons h _, e => by
    rw [List.getElem?_cons_zero] at e ⊢
    cases e
    exact ⟨_, rfl, h⟩
  | _, _, i + 1, d, .cons _ t, e => by
    rw [List.getElem?_cons_succ] at e ⊢
    exact DqAll.get t e
theorem DqAll.getV {H : Hp} : ∀ {vs : List V} {ds : List PyData} {i : Nat} {v : V}, DqAll H vs ds → vs[i]? = some v → ∃ d, ds[i]? = some d ∧ Dq H v d
  | _, _, _, _, .nil, e => by simp at e
  | _, _, 0, d, .cons h _, e => by
    rw [List.getElem?_cons_zero] at e ⊢
    cases e
    exact ⟨_, rfl, h⟩
  | _, _, i + 1, d, .cons _ t, e => by
    rw [List.getElem?_cons_succ] at e ⊢
    exact DqAll.getV t e
theorem DqAll.append {H : Hp} : ∀ {vs ws : List V} {ds es : List PyData}, DqAll H vs ds → DqAll H ws es → DqAll H (vs ++ ws) (ds ++ es)
  | _, _, _, _, .nil, s => s
  | _, _, _, _, .cons r t, s => .cons r (DqAll.append t s)
theorem DqAll.take {H : Hp} : ∀ {vs : List V} {ds : List PyData} (n : Nat), DqAll H vs ds → DqAll H (vs.take n) (ds.take n)
  | _, _, 0, _ => by rw [List.take_zero, List.take_zero]; exact .nil
  | _, _, _ + 1, .nil => .nil
  | _, _, n + 1, .cons r t => .cons r (DqAll.take n t)
theorem DqAll.drop {H : Hp} : ∀ {vs : List V} {ds : List PyData} (n : Nat), DqAll H vs ds → DqAll H (vs.drop n) (ds.drop n)
  | _, _, 0, r => r
  | _, _, _ + 1, .nil => .nil
  | _, _, n + 1, .cons r t => DqAll.drop n t
theorem DqAll.one {H : Hp} {v : V} {d : PyData} (h : Dq H v d) : DqAll H [v] [d] := .cons h .nil
theorem DqAll.reverse {H : Hp} : ∀ {vs : List V} {ds : List PyData}, DqAll H vs ds → DqAll H vs.reverse ds.reverse
  | _, _, .nil => .nil
  | _, _, .cons r t => by
    rw [List.reverse_cons, List.reverse_cons]
    exact DqAll.append (DqAll.reverse t) (DqAll.one r)
theorem DqAll.ints {H : Hp} : ∀ {vs : List V} {ns : List Int}, DqAll H vs (ns.map PyData.int) → vs = ns.map V.int
  | [], [], _ => rfl
  | _ :: _, n :: ns, .cons h t => by
    cases h
    rw [DqAll.ints t, List.map_cons]
theorem DqAll.strs {H : Hp} : ∀ {vs : List V} {ns : List Str}, DqAll H vs (ns.map PyData.str) → vs = ns.map V.str
  | [], [], _ => rfl
  | _ :: _, n :: ns, .cons h t => by
    cases h
    rw [DqAll.strs t, List.map_cons]
theorem DqAll.bools {H : Hp} : ∀ {vs : List V} {ns : List Bool}, DqAll H vs (ns.map PyData.bool) → vs = ns.map V.bl
  | [], [], _ => rfl
  | _ :: _, n :: ns, .cons h t => by
    cases h
    rw [DqAll.bools t, List.map_cons]

end L2
namespace Ly
open PySem PySem.Spec PyProof.Rows L2 Evl
/-! ### the tape: its address, its cells' address, its cells -/
abbrev TPar := Option (Addr × Addr × List Int)
def TapeH (t : Addr × Addr × List Int) (H : Hp) : Prop := ∃ i j k : Int, 0 ≤ i ∧ 0 ≤ j ∧ 0 ≤ k ∧ H t.1 = some (.lst [.ref t.2.1, .int i, .int j, .int k])
def TapeG (K : PySem.W.Frag) (t : Addr × Addr × List Int) (G : Hp) : Prop := G t.1 = none ∧ SqL K G t.2.1 (t.2.2.map V.int) ∧ t.2.2.length ≤ 63

/-- no tuple -/
def Mt (o : HO) : Prop := ∀ xs, o ≠ .tup xs
/-- from (G, H) to (G2, H2): the view G grows by new objects and by tuples alone; all of H but the tape is as it was -/
structure Adv (tp : TPar) (G H G2 H2 : Hp) : Prop where
  gx : Ex G G2
  hx : ∀ a o, H a = some o → (∀ t, tp = some t → a ≠ t.1) → H2 a = some o
  dom : ∀ a, H2 a = none → H a = none
  km : ∀ a o, H a = some o → Mt o → ∃ o', H2 a = some o' ∧ Mt o'
  sub : Ex G2 H2
  nw : ∀ a o, H a = some o → Mt o → G a = none → G2 a = none
  tape : ∀ t, tp = some t → TapeH t H → TapeH t H2
theorem mt_l {xs : List V} : Mt (.lst xs) := fun _ z => by cases z
theorem mt_d {xs : List (List Key × V)} : Mt (.dT xs) := fun _ z => by cases z
theorem Adv.refl {tp : TPar} {G H : Hp} (h : Ex G H) : Adv tp G H G H := ⟨Ex.refl G, fun _ _ e _ => e, fun _ e => e, fun _ o e m => ⟨o, e, m⟩, h, fun _ _ _ _ e => e, fun _ _ e => e⟩
theorem Adv.trans {tp : TPar} {G H G1 H1 G2 H2 : Hp} (a : Adv tp G H G1 H1) (b : Adv tp G1 H1 G2 H2) : Adv tp G H G2 H2 where
  gx := a.gx.trans b.gx
  hx := fun x o e n => b.hx x o (a.hx x o e n) n
  dom := fun x e => a.dom x (b.dom x e)
  km := fun x o e m => let ⟨o1, e1, m1⟩ := a.km x o e m; b.km x o1 e1 m1
  sub := b.sub
  nw := fun x o h m g => let ⟨o1, e1, m1⟩ := a.km x o h m; b.nw x o1 e1 m1 (a.nw x o h m g)
  tape := fun t e h => b.tape t e (a.tape t e h)
/-- a callee that knows no tape -/
theorem Adv.any {tp : TPar} {G H G2 H2 : Hp} (a : Adv none G H G2 H2) : Adv tp G H G2 H2 where
  gx := a.gx
  hx := fun x o e _ => a.hx x o e (fun _ z => nomatch z)
  dom := a.dom
  km := a.km
  sub := a.sub
  nw := a.nw
  tape := fun t _ ⟨i, j, k, h0, h1, h2, e⟩ => ⟨i, j, k, h0, h1, h2, a.hx _ _ e (fun _ z => nomatch z)⟩
theorem Adv.ex {G H G2 H2 : Hp} (a : Adv none G H G2 H2) : Ex H H2 := fun x o e => a.hx x o e (fun _ z => nomatch z)
theorem Adv.of_ex {tp : TPar} {G H H2 : Hp} (h : Ex G H) (e : Ex H H2) : Adv tp G H G H2 where
  gx := Ex.refl G
  hx := fun x o q _ => e x o q
  dom := fun x q => fresh_back e q
  km := fun x o q m => ⟨o, e x o q, m⟩
  sub := h.trans e
  nw := fun _ _ _ _ g => g
  tape := fun t _ ⟨i, j, k, h0, h1, h2, q⟩ => ⟨i, j, k, h0, h1, h2, e _ _ q⟩
/-- a new object, seen -/
theorem Adv.new {tp : TPar} {G H : Hp} {p : Addr} {o : HO} (h : Ex G H) (n : H p = none) : Adv tp G H (upd G p o) (upd H p o) where
  gx := Ex.new (fresh_back h n)
  hx := fun x u q _ => Ex.new n x u q
  dom := fun x q => fresh_back (Ex.new n) q
  km := fun x u q m => ⟨u, Ex.new n x u q, m⟩
  sub := fun a u q => by
    by_cases z : a = p
    · subst z; rw [upd_same] at q ⊢; exact q
    · rw [upd_ne z] at q ⊢; exact h a u q
  nw := fun a u x _ g => by
    have z : a ≠ p := ne_of_none x n
    rw [upd_ne z]; exact g
  tape := fun t _ ⟨i, j, k, h0, h1, h2, q⟩ => ⟨i, j, k, h0, h1, h2, Ex.new n _ _ q⟩
/-- a new object, not seen -/
theorem Adv.hid {tp : TPar} {G H : Hp} {p : Addr} {o : HO} (h : Ex G H) (n : H p = none) : Adv tp G H G (upd H p o) := Adv.of_ex h (Ex.new n)
/-- what was hidden and new is seen from now on -/
theorem Adv.shown {tp : TPar} {G H G2 H2 : Hp} {p : Addr} {o : HO} (a : Adv tp G H G2 H2) (n : H p = none) (g : G2 p = none) (h : H2 p = some o) : Adv tp G H (upd G2 p o) H2 where
  gx := a.gx.trans (Ex.new g)
  hx := a.hx
  dom := a.dom
  km := a.km
  sub := fun x u q => by
    by_cases z : x = p
    · subst z; rw [upd_same] at q; rw [h]; exact q
    · rw [upd_ne z] at q; exact a.sub x u q
  nw := fun x u hx m gx => by
    have z : x ≠ p := ne_of_none hx n
    rw [upd_ne z]; exact a.nw x u hx m gx
  tape := a.tape
/-- a tuple is seen -/
theorem Adv.seeT {tp : TPar} {G H : Hp} {q : Addr} {xs : List V} (h : Ex G H) (e : H q = some (.tup xs)) : ∃ G', Adv tp G H G' H ∧ G' q = some (.tup xs) := by
  cases g : G q with
  | some u =>
    have := h q u g
    rw [e] at this
    cases this
    exact ⟨G, Adv.refl h, g⟩
  | none =>
    refine ⟨upd G q (.tup xs), ⟨Ex.new g, fun _ _ z _ => z, fun _ z => z, fun _ o z m => ⟨o, z, m⟩, fun x u z => ?_, fun x o hx m gx => ?_, fun _ _ z => z⟩, upd_same⟩
    · by_cases c : x = q
      · subst c; rw [upd_same] at z; rw [e]; exact z
      · rw [upd_ne c] at z; exact h x u z
    · have c : x ≠ q := fun z => by
        rw [z, e] at hx
        cases hx
        exact m xs rfl
      rw [upd_ne c]; exact gx

/-! ### slots -/
inductive Sl where
  | any
  /-- data, seen -/
  | dat (d : PyData)
  /-- a list of this frame alone, of seen data -/
  | own (xs : List PyData)
  | tape
  /-- a dict of this frame alone, whose keys are tuples of ints and texts -/
  | tab (kvs : List (List Key × V))
  /-- such a dict while it is walked -/
  | ftab (kvs : List (List Key × V))
structure Bs where
  Gm : Hp
  G0 : Hp
  H0 : Hp
def SlOk (K : PySem.W.Frag) (tp : TPar) (H0 G H : Hp) : Sl → Option (Option V) → Prop
  | .any, _ => True
  | .dat d, o => ∃ v, o = some (some v) ∧ Dq G v d
  | .own xs, o => ∃ p vs, o = some (some (.ref p)) ∧ H0 p = none ∧ G p = none ∧ H p = some (.lst vs) ∧ DqAll G vs xs
  | .tape, o => ∃ t, tp = some t ∧ o = some (some (.ref t.1))
  | .tab kvs, o => ∃ p, o = some (some (.ref p)) ∧ H0 p = none ∧ G p = none ∧ H p = some (.dT kvs)
  | .ftab kvs, o => ∃ p ob, o = some (some (.ref p)) ∧ G p = some (.frz ob (.dT kvs))
def Sl.mut : Sl → Bool
  | .own _ => true
  | .tape => true
  | .tab _ => true
  | _ => false
structure Hv (K : PySem.W.Frag) (B : Bs) (tp : TPar) (Γ : List Sl) (σ : L2.St) (G H : Hp) : Prop where
  mn : Ex B.Gm G
  adv : Adv tp B.G0 B.H0 G H
  tape : ∀ t, tp = some t → TapeH t H ∧ TapeG K t G ∧ B.H0 t.1 ≠ none
  sl : ∀ (i : Nat) (k : Sl), Γ[i]? = some k → SlOk K tp B.H0 G H k σ[i]?
  len : Γ.length = σ.length
  ap : ∀ (i j : Nat) (k l : Sl) (p : Addr), i ≠ j → Γ[i]? = some k → Γ[j]? = some l → k.mut = true → l.mut = true → σ[i]? = some (some (.ref p)) → σ[j]? ≠ some (some (.ref p))
theorem SlOk.adv {K : PySem.W.Frag} {tp : TPar} {H0 G H G2 H2 : Hp} (ht : ∀ t, tp = some t → H0 t.1 ≠ none) (a : Adv tp G H G2 H2) : ∀ {k : Sl} {o : Option (Option V)}, SlOk K tp H0 G H k o → SlOk K tp H0 G2 H2 k o
  | .any, _, _ => trivial
  | .dat d, _, ⟨v, e, h⟩ => ⟨v, e, Dq.ex h a.gx⟩
  | .own xs, _, ⟨p, vs, e, n, g, h, hd⟩ => ⟨p, vs, e, n, a.nw p _ h mt_l g, a.hx p _ h (fun t z q => ht t z (q ▸ n)), DqAll.ex a.gx hd⟩
  | .tape, _, h => h
  | .tab kvs, _, ⟨p, e, n, g, h⟩ => ⟨p, e, n, a.nw p _ h mt_d g, a.hx p _ h (fun t z q => ht t z (q ▸ n))⟩
  | .ftab kvs, _, ⟨p, ob, e, g⟩ => ⟨p, ob, e, a.gx _ _ g⟩
section
variable {K : PySem.W.Frag} {B : Bs} {tp : TPar} {Γ : List Sl} {σ : L2.St} {G H G2 H2 : Hp}
theorem TapeG.adv {t : Addr × Addr × List Int} (h : TapeG K t G) (hh : TapeH t H) (a : Adv tp G H G2 H2) : TapeG K t G2 := by
  obtain ⟨i, j, k, _, _, _, e⟩ := hh
  exact ⟨a.nw _ _ e mt_l h.1, ex_l a.gx h.2.1, h.2.2⟩
theorem Hv.adv' (E : Hv K B tp Γ σ G H) (a : Adv tp G H G2 H2) : Hv K B tp Γ σ G2 H2 :=
  ⟨E.mn.trans a.gx, E.adv.trans a, fun t e => ⟨a.tape t e (E.tape t e).1, (E.tape t e).2.1.adv (E.tape t e).1 a, (E.tape t e).2.2⟩, fun i k e => SlOk.adv (fun t z => (E.tape t z).2.2) a (E.sl i k e), E.len, E.ap⟩
theorem Hv.sub (E : Hv K B tp Γ σ G H) : Ex G H := E.adv.sub
/-- a slot is set to data -/
theorem Hv.setD {i : Nat} {v : V} {d : PyData} (E : Hv K B tp Γ σ G H) (h : Dq G v d) : Hv K B tp (Γ.set i (.dat d)) (σ.set i (some v)) G H := by
  refine ⟨E.mn, E.adv, E.tape, fun j k e => ?_, by rw [List.length_set, List.length_set, E.len], fun a b k l p n e1 e2 m1 m2 s1 => ?_⟩
  · by_cases hj : i = j
    · subst hj
      have hi : i < Γ.length := by
        have := (List.getElem?_eq_some_iff.mp e).1
        rwa [List.length_set] at this
      rw [List.getElem?_set_self hi] at e
      cases e
      exact ⟨v, List.getElem?_set_self (E.len ▸ hi), h⟩
    · rw [List.getElem?_set_ne hj] at e ⊢
      exact E.sl j k e
  · by_cases ha : i = a
    · subst ha
      have hi : i < Γ.length := by
        have := (List.getElem?_eq_some_iff.mp e1).1
        rwa [List.length_set] at this
      rw [List.getElem?_set_self hi] at e1
      cases e1
      cases m1
    · by_cases hb : i = b
      · subst hb
        have hi : i < Γ.length := by
          have := (List.getElem?_eq_some_iff.mp e2).1
          rwa [List.length_set] at this
        rw [List.getElem?_set_self hi] at e2
        cases e2
        cases m2
      · rw [List.getElem?_set_ne ha] at e1 s1
        rw [List.getElem?_set_ne hb] at e2 ⊢
        exact E.ap a b k l p n e1 e2 m1 m2 s1
/-- a slot is set to something of which nothing is known, or forgotten -/
theorem Hv.setA {i : Nat} {o : Option V} (E : Hv K B tp Γ σ G H) : Hv K B tp (Γ.set i .any) (σ.set i o) G H := by
  refine ⟨E.mn, E.adv, E.tape, fun j k e => ?_, by rw [List.length_set, List.length_set, E.len], fun a b k l p n e1 e2 m1 m2 s1 => ?_⟩
  · by_cases hj : i = j
    · subst hj
      have hi : i < Γ.length := by
        have := (List.getElem?_eq_some_iff.mp e).1
        rwa [List.length_set] at this
      rw [List.getElem?_set_self hi] at e
      cases e
      trivial
    · rw [List.getElem?_set_ne hj] at e ⊢
      exact E.sl j k e
  · by_cases ha : i = a
    · subst ha
      have hi : i < Γ.length := by
        have := (List.getElem?_eq_some_iff.mp e1).1
        rwa [List.length_set] at this
      rw [List.getElem?_set_self hi] at e1
      cases e1
      cases m1
    · by_cases hb : i = b
      · subst hb
        have hi : i < Γ.length := by
          have := (List.getElem?_eq_some_iff.mp e2).1
          rwa [List.length_set] at this
        rw [List.getElem?_set_self hi] at e2
        cases e2
        cases m2
      · rw [List.getElem?_set_ne ha] at e1 s1
        rw [List.getElem?_set_ne hb] at e2 ⊢
        exact E.ap a b k l p n e1 e2 m1 m2 s1
/-- where a mutable thing of this frame stands, no other slot that is known to be mutable points -/
theorem Hv.mut_at {i : Nat} {k : Sl} (E : Hv K B tp Γ σ G H) (e : Γ[i]? = some k) (m : k.mut = true) : ∃ p o, σ[i]? = some (some (.ref p)) ∧ H p = some o := by
  have h := E.sl i k e
  cases k with
  | any => cases m
  | dat d => cases m
  | own xs => obtain ⟨p, vs, e, _, _, h, _⟩ := h; exact ⟨p, _, e, h⟩
  | tape =>
    obtain ⟨t, e1, e2⟩ := h
    obtain ⟨i, j, k, _, _, _, q⟩ := (E.tape t e1).1
    exact ⟨t.1, _, e2, q⟩
  | tab kvs => obtain ⟨p, e, _, _, h⟩ := h; exact ⟨p, _, e, h⟩
  | ftab kvs => cases m
/-- a slot is set to a new list (or dict) of this frame: p was nothing ahead -/
theorem Hv.setM {i : Nat} {p : Addr} {k : Sl} (E : Hv K B tp Γ σ G H) (a : Adv tp G H G2 H2) (n : H p = none) (h : SlOk K tp B.H0 G2 H2 k (some (some (.ref p)))) : Hv K B tp (Γ.set i k) (σ.set i (some (.ref p))) G2 H2 := by
  have E2 := E.adv' a
  refine ⟨E2.mn, E2.adv, E2.tape, fun j l e => ?_, by rw [List.length_set, List.length_set, E.len], fun c b k' l q nn e1 e2 m1 m2 s1 => ?_⟩
  · by_cases hj : i = j
    · subst hj
      have hi : i < Γ.length := by
        have := (List.getElem?_eq_some_iff.mp e).1
        rwa [List.length_set] at this
      rw [List.getElem?_set_self hi] at e
      cases e
      rw [List.getElem?_set_self (E.len ▸ hi)]
      exact h
    · rw [List.getElem?_set_ne hj] at e ⊢
      exact E2.sl j l e
  · by_cases ha : i = c
    · subst ha
      have hi : i < Γ.length := by
        have := (List.getElem?_eq_some_iff.mp e1).1
        rwa [List.length_set] at this
      rw [List.getElem?_set_ne nn] at e2 ⊢
      rw [List.getElem?_set_self (E.len ▸ hi)] at s1
      cases s1
      intro z
      obtain ⟨p', o, z', hz⟩ := E.mut_at e2 m2
      rw [z] at z'
      cases z'
      rw [n] at hz
      cases hz
    · by_cases hb : i = b
      · subst hb
        have hi : i < Γ.length := by
          have := (List.getElem?_eq_some_iff.mp e2).1
          rwa [List.length_set] at this
        rw [List.getElem?_set_ne ha] at e1 s1
        rw [List.getElem?_set_self (E.len ▸ hi)]
        intro z
        cases z
        obtain ⟨p', o, z', hz⟩ := E.mut_at e1 m1
        rw [s1] at z'
        cases z'
        rw [n] at hz
        cases hz
      · rw [List.getElem?_set_ne ha] at e1 s1
        rw [List.getElem?_set_ne hb] at e2 ⊢
        exact E.ap c b k' l q nn e1 e2 m1 m2 s1
/-- a list of this frame is changed -/
theorem Hv.wrL {i : Nat} {xs ys : List PyData} {p : Addr} {ws : List V} (E : Hv K B tp Γ σ G H) (e : Γ[i]? = some (.own xs)) (hp : σ[i]? = some (some (.ref p))) (h : DqAll G ws ys) : Hv K B tp (Γ.set i (.own ys)) σ G (upd H p (.lst ws)) := by
  obtain ⟨p', vs', e', n0, g0, h0, hd⟩ := E.sl i _ e
  rw [hp] at e'
  cases e'
  have hi : i < Γ.length := (List.getElem?_eq_some_iff.mp e).1
  have notT : ∀ t, tp = some t → t.1 ≠ p := fun t z q => (E.tape t z).2.2 (q ▸ n0)
  have other : ∀ j k, j ≠ i → Γ[j]? = some k → SlOk K tp B.H0 G (upd H p (.lst ws)) k σ[j]? := fun j k ne ek => by
    have hk := E.sl j k ek
    cases k with
    | any => trivial
    | dat d => exact hk
    | own zs =>
      obtain ⟨q, us, e1, e2, e3, e4, e5⟩ := hk
      have nq : q ≠ p := fun z => by
        subst z
        exact E.ap i j _ _ q (Ne.symm ne) e ek rfl rfl hp e1
      exact ⟨q, us, e1, e2, e3, by rw [upd_ne nq]; exact e4, e5⟩
    | tape => exact hk
    | tab kvs =>
      obtain ⟨q, e1, e2, e3, e4⟩ := hk
      have nq : q ≠ p := fun z => by
        subst z
        exact E.ap i j _ _ q (Ne.symm ne) e ek rfl rfl hp e1
      exact ⟨q, e1, e2, e3, by rw [upd_ne nq]; exact e4⟩
    | ftab kvs => exact hk
  refine ⟨E.mn, ⟨E.adv.gx, fun a o z nt => ?_, fun a z => ?_, fun a o z m => ?_, fun a o z => ?_, E.adv.nw, fun t z q => ?_⟩, fun t z => ?_, fun j k ek => ?_, by rw [List.length_set, E.len], fun a b k l q nn e1 e2 m1 m2 s1 => ?_⟩
  · have na : a ≠ p := fun q => by rw [q, n0] at z; cases z
    rw [upd_ne na]; exact E.adv.hx a o z nt
  · by_cases na : a = p
    · rw [na, upd_same] at z; cases z
    · rw [upd_ne na] at z; exact E.adv.dom a z
  · have na : a ≠ p := fun q => by rw [q, n0] at z; cases z
    rw [upd_ne na]; exact E.adv.km a o z m
  · have na : a ≠ p := fun q => by rw [q, g0] at z; cases z
    rw [upd_ne na]; exact E.adv.sub a o z
  · obtain ⟨i1, j1, k1, b0, b1, b2, q1⟩ := E.adv.tape t z q
    exact ⟨i1, j1, k1, b0, b1, b2, by rw [upd_ne (notT t z)]; exact q1⟩
  · obtain ⟨⟨i1, j1, k1, b0, b1, b2, q1⟩, r⟩ := E.tape t z
    exact ⟨⟨i1, j1, k1, b0, b1, b2, by rw [upd_ne (notT t z)]; exact q1⟩, r⟩
  · by_cases hj : i = j
    · subst hj
      rw [List.getElem?_set_self hi] at ek
      cases ek
      exact ⟨p, ws, hp, n0, g0, upd_same, h⟩
    · rw [List.getElem?_set_ne hj] at ek
      exact other j k (Ne.symm hj) ek
  · have k1 : ∃ k', Γ[a]? = some k' ∧ k'.mut = true := by
      by_cases ha : i = a
      · subst ha; exact ⟨_, e, rfl⟩
      · rw [List.getElem?_set_ne ha] at e1; exact ⟨_, e1, m1⟩
    have k2 : ∃ k', Γ[b]? = some k' ∧ k'.mut = true := by
      by_cases hb : i = b
      · subst hb; exact ⟨_, e, rfl⟩
      · rw [List.getElem?_set_ne hb] at e2; exact ⟨_, e2, m2⟩
    obtain ⟨k', c1, c2⟩ := k1
    obtain ⟨l', d1, d2⟩ := k2
    exact E.ap a b k' l' q nn c1 d1 c2 d2 s1
/-- a list of this frame is seen from now on (and changed no more) -/
theorem Hv.freeze {i : Nat} {xs : List PyData} (E : Hv K B tp Γ σ G H) (e : Γ[i]? = some (.own xs)) : ∃ G', Ex G G' ∧ Hv K B tp (Γ.set i (.dat (.list xs))) σ G' H := by
  obtain ⟨p, vs, e', n0, g0, h0, hd⟩ := E.sl i _ e
  have hi : i < Γ.length := (List.getElem?_eq_some_iff.mp e).1
  have gx : Ex G (upd G p (.lst vs)) := Ex.new g0
  have notT : ∀ t, tp = some t → t.1 ≠ p := fun t z q => (E.tape t z).2.2 (q ▸ n0)
  refine ⟨upd G p (.lst vs), gx, ⟨E.mn.trans gx, E.adv.shown n0 g0 h0, fun t z => ?_, fun j k ek => ?_, by rw [List.length_set, E.len], fun a b k l q nn e1 e2 m1 m2 s1 => ?_⟩⟩
  · obtain ⟨a1, ⟨a2, a3, a4⟩, a5⟩ := E.tape t z
    exact ⟨a1, ⟨by rw [upd_ne (notT t z)]; exact a2, ex_l gx a3, a4⟩, a5⟩
  · by_cases hj : i = j
    · subst hj
      rw [List.getElem?_set_self hi] at ek
      cases ek
      exact ⟨.ref p, e', .lst upd_same (DqAll.ex gx hd)⟩
    · rw [List.getElem?_set_ne hj] at ek
      have hk := E.sl j k ek
      cases k with
      | any => trivial
      | dat d => obtain ⟨v, z1, z2⟩ := hk; exact ⟨v, z1, Dq.ex z2 gx⟩
      | own zs =>
        obtain ⟨q, us, f1, f2, f3, f4, f5⟩ := hk
        have nq : q ≠ p := fun z => by
          subst z
          exact E.ap i j _ _ q hj e ek rfl rfl e' f1
        exact ⟨q, us, f1, f2, by rw [upd_ne nq]; exact f3, f4, DqAll.ex gx f5⟩
      | tape => exact hk
      | tab kvs =>
        obtain ⟨q, f1, f2, f3, f4⟩ := hk
        have nq : q ≠ p := fun z => by
          subst z
          exact E.ap i j _ _ q hj e ek rfl rfl e' f1
        exact ⟨q, f1, f2, by rw [upd_ne nq]; exact f3, f4⟩
      | ftab kvs => obtain ⟨q, ob, f1, f2⟩ := hk; exact ⟨q, ob, f1, gx _ _ f2⟩
  · by_cases ha : i = a
    · subst ha
      rw [List.getElem?_set_self hi] at e1
      cases e1
      cases m1
    · by_cases hb : i = b
      · subst hb
        rw [List.getElem?_set_self hi] at e2
        cases e2
        cases m2
      · rw [List.getElem?_set_ne ha] at e1
        rw [List.getElem?_set_ne hb] at e2
        exact E.ap a b k l q nn e1 e2 m1 m2 s1
end
end Ly


set_option Elab.async false
set_option linter.all false
set_option maxRecDepth 100000
set_option maxHeartbeats 2000000
namespace Ly
open PySem PySem.Spec PyProof.Rows L2 Evl

/-! ### judgements -/
/-- an expression's value is seen data of which P holds -/
def E (X : Cx) (tp : TPar) (Γ : List Sl) (e : Expr) (P : PyData → Prop) : Prop :=
  ∀ (B : Bs) (σ : L2.St) (G H : Hp), Hv X.K B tp Γ σ G H → ∀ Q : VK, (∀ v d G2 H2, P d → Dq G2 v d → Adv tp G H G2 H2 → Q v H2) → wE X e σ H Q
abbrev Ed (X : Cx) (tp : TPar) (Γ : List Sl) (e : Expr) (d : PyData) : Prop := E X tp Γ e (fun y => y = d)
/-- .. is a new list, not seen -/
def O (X : Cx) (tp : TPar) (Γ : List Sl) (e : Expr) (P : List PyData → Prop) : Prop :=
  ∀ (B : Bs) (σ : L2.St) (G H : Hp), Hv X.K B tp Γ σ G H → ∀ Q : VK, (∀ p vs xs G2 H2, P xs → H p = none → G2 p = none → H2 p = some (.lst vs) → DqAll G2 vs xs → Adv tp G H G2 H2 → Q (.ref p) H2) → wE X e σ H Q
abbrev Od (X : Cx) (tp : TPar) (Γ : List Sl) (e : Expr) (xs : List PyData) : Prop := O X tp Γ e (fun y => y = xs)
def T (X : Cx) (tp : TPar) (Γ : List Sl) (e : Expr) (P : Bool → Prop) : Prop :=
  ∀ (B : Bs) (σ : L2.St) (G H : Hp), Hv X.K B tp Γ σ G H → ∀ Q : Bool → Hp → Prop, (∀ b G2 H2, P b → Adv tp G H G2 H2 → Q b H2) → wT X e σ H Q
abbrev Td (X : Cx) (tp : TPar) (Γ : List Sl) (e : Expr) (b : Bool) : Prop := T X tp Γ e (fun y => y = b)
def Ad (X : Cx) (tp : TPar) (Γ : List Sl) (es : List Expr) (ds : List PyData) : Prop :=
  ∀ (B : Bs) (σ : L2.St) (G H : Hp), Hv X.K B tp Γ σ G H → ∀ Q : List V → Hp → Prop, (∀ vs G2 H2, DqAll G2 vs ds → Adv tp G H G2 H2 → Q vs H2) → wA X es σ H Q
section
variable {X : Cx} {tp : TPar} {Γ : List Sl} {e a b c : Expr} {es : List Expr} {P P' R : PyData → Prop} {pos : Pos}
theorem e_of {t : TE} (h : PE X e t) (k : ∀ (B : Bs) (σ : L2.St) (G H : Hp), Hv X.K B tp Γ σ G H → ∀ Q : VK, (∀ v d G2 H2, P d → Dq G2 v d → Adv tp G H G2 H2 → Q v H2) → t σ H Q) : E X tp Γ e P :=
  fun B σ G H hv Q q => we_of h (k B σ G H hv Q q)
theorem e_mono (h : E X tp Γ e P) (k : ∀ d, P d → P' d) : E X tp Γ e P' := fun B σ G H hv Q q => h B σ G H hv Q fun v d G2 H2 hp => q v d G2 H2 (k d hp)
theorem e_eq {d d' : PyData} (h : Ed X tp Γ e d) (k : d = d') : Ed X tp Γ e d' := k ▸ h
theorem t_mono {P P' : Bool → Prop} (h : T X tp Γ e P) (k : ∀ d, P d → P' d) : T X tp Γ e P' := fun B σ G H hv Q q => h B σ G H hv Q fun b G2 H2 hp => q b G2 H2 (k b hp)
theorem t_eq {d d' : Bool} (h : Td X tp Γ e d) (k : d = d') : Td X tp Γ e d' := k ▸ h
theorem o_mono {P P' : List PyData → Prop} (h : O X tp Γ e P) (k : ∀ d, P d → P' d) : O X tp Γ e P' := fun B σ G H hv Q q => h B σ G H hv Q fun p vs xs G2 H2 hp => q p vs xs G2 H2 (k xs hp)
/-- a new list, seen from now on -/
theorem e_ofO {P : List PyData → Prop} (h : O X tp Γ e P) : E X tp Γ e (fun d => ∃ xs, P xs ∧ d = .list xs) := fun B σ G H hv Q q =>
  h B σ G H hv Q fun p vs xs G2 H2 hp n g hh hd a => q _ _ (upd G2 p (.lst vs)) H2 ⟨xs, hp, rfl⟩ (.lst upd_same (DqAll.ex (Ex.new g) hd)) (a.shown n g hh)
theorem ed_ofO {xs : List PyData} (h : Od X tp Γ e xs) : Ed X tp Γ e (.list xs) := e_mono (e_ofO h) fun _ ⟨_, h1, h2⟩ => h1 ▸ h2

/-- data without an address -/
def scalD : PyData → Bool
  | .none => true
  | .bool _ => true
  | .int _ => true
  | .str _ => true
  | _ => false
theorem _root_.L2.Dq.scal {H H' : Hp} {v : V} {d : PyData} (h : Dq H v d) (s : scalD d = true) : Dq H' v d := by
  cases h with
  | non => exact .non
  | bl b => exact .bl b
  | int i => exact .int i
  | str x => exact .str x
  | lst _ _ => cases s
  | tup _ _ => cases s
theorem Adv.drop {G G' H G2 H2 : Hp} (e : Ex G G') (a : Adv tp G' H G2 H2) : Adv tp G H G H2 :=
  ⟨Ex.refl G, a.hx, a.dom, a.km, (e.trans a.gx).trans a.sub, fun _ _ _ _ g => g, a.tape⟩
/-- a list of this frame is looked at within an expression whose value has no address -/
theorem e_tmp (i : Nat) {xs : List PyData} (hi : Γ[i]? = some (.own xs)) (h : E X tp (Γ.set i (.dat (.list xs))) e P) (hs : ∀ d, P d → scalD d = true) : E X tp Γ e P := fun B σ G H hv Q q => by
  obtain ⟨G', ex, hv'⟩ := hv.freeze hi
  exact h B σ G' H hv' Q fun v d G2 H2 hp hd a => q v d G H2 hp (Dq.scal hd (hs d hp)) (Adv.drop ex a)
theorem t_tmp {P : Bool → Prop} (i : Nat) {xs : List PyData} (hi : Γ[i]? = some (.own xs)) (h : T X tp (Γ.set i (.dat (.list xs))) e P) : T X tp Γ e P := fun B σ G H hv Q q => by
  obtain ⟨G', ex, hv'⟩ := hv.freeze hi
  exact h B σ G' H hv' Q fun b G2 H2 hp a => q b G H2 hp (Adv.drop ex a)

/-! ### names, constants -/
theorem e_var (i : Nat) {x : Str} {d : PyData} (hN : X.N[i]? = some x := by rfl) (hv : Vis X.env.scope x := by first | exact Or.inl rfl | exact Or.inr (Or.inl rfl) | exact Or.inr (Or.inr rfl)) (hi : Γ[i]? = some (.dat d) := by rfl)
    (hd : (x == ("__debug__" : Str)) = false := by decide) (hcd : (x == ("__classdict__" : Str)) = false := by decide) : Ed X tp Γ (.Name x pos) d :=
  e_of (pe_var hN hv hd hcd) fun B σ G H h Q q => by
    obtain ⟨v, e, hp⟩ := h.sl i _ hi
    exact ⟨v, e, q v d G H rfl hp (Adv.refl h.sub)⟩
theorem e_int {i : Int} {j : Nat} : Ed X tp Γ (.Constant (.int i) j pos) (.int i) := e_of pe_int fun B σ G H h Q q => q _ _ G H rfl (.int i) (Adv.refl h.sub)
theorem e_str {x : Str} {j : Nat} : Ed X tp Γ (.Constant (.str x) j pos) (.str x) := e_of pe_str fun B σ G H h Q q => q _ _ G H rfl (.str x) (Adv.refl h.sub)
theorem e_bl {x : Bool} {j : Nat} : Ed X tp Γ (.Constant (.bool x) j pos) (.bool x) := e_of pe_bl fun B σ G H h Q q => q _ _ G H rfl (.bl x) (Adv.refl h.sub)
theorem e_non {j : Nat} : Ed X tp Γ (.Constant .none j pos) .none := e_of pe_non fun B σ G H h Q q => q _ _ G H rfl .non (Adv.refl h.sub)
theorem e_glob {x : Str} {s : Str} {t : Tok} (hm : X.mg x = some (.str s t)) (hg : Gl X x := by rfl) (hd : (x == ("__debug__" : Str)) = false := by decide) : Ed X tp Γ (.Name x pos) (.str s) :=
  e_of (pe_glob (v := .str s) hg hm ⟨t, rfl⟩ hd) fun B σ G H h Q q => q _ _ G H rfl (.str s) (Adv.refl h.sub)

/-! ### operators -/
/-- a reading by two values, at data -/
def V2 (tp : TPar) (r : R2) (dx dy : PyData) (R : PyData → Prop) : Prop :=
  ∀ (x y : V) (G H : Hp), Ex G H → Dq G x dx → Dq G y dy → ∀ Q : VK, (∀ v d G2 H2, R d → Dq G2 v d → Adv tp G H G2 H2 → Q v H2) → r x y H Q
theorem top_of {r : R2} {P P' R : PyData → Prop} (ha : E X tp Γ a P) (hb : E X tp Γ b P') (h : ∀ dx dy, P dx → P' dy → V2 tp r dx dy R) (B : Bs) (σ : L2.St) (G H : Hp) (hv : Hv X.K B tp Γ σ G H)
    (Q : VK) (q : ∀ v d G2 H2, R d → Dq G2 v d → Adv tp G H G2 H2 → Q v H2) : tOp r (wE X a) (wE X b) σ H Q :=
  ha B σ G H hv _ fun x dx G1 H1 px hx a1 => hb B σ G1 H1 (hv.adv' a1) _ fun y dy G2 H2 py hy a2 => h dx dy px py x y G2 H2 a2.sub (Dq.ex hx a2.gx) hy Q fun v d G3 H3 hr hd a3 => q v d G3 H3 hr hd ((a1.trans a2).trans a3)
theorem e_op {op : Operator} {r : R2} (ho : OpR X (binaryOp op) r) (ha : E X tp Γ a P) (hb : E X tp Γ b P') (h : ∀ dx dy, P dx → P' dy → V2 tp r dx dy R) : E X tp Γ (.BinOp a op b pos) R :=
  e_of (pe_op ho pe_w pe_w) (top_of ha hb h)
variable {K : PySem.W.Frag}
/-- what a plain value is as data -/
def vD : V → PyData
  | .bl b => .bool b
  | .int i => .int i
  | .str x => .str x
  | _ => .none
def okV : V → Bool
  | .bl _ => true
  | .int _ => true
  | .str _ => true
  | _ => false
theorem dp_vD {H : Hp} : ∀ {v : V}, okV v = true → Dq H v (vD v)
  | .bl b, _ => .bl b
  | .int i, _ => .int i
  | .str x, _ => .str x
theorem v2_I0 {g : Int → Int → V} {i j : Int} (hg : okV (g i j) = true := by rfl) : V2 tp (rI0 g) (.int i) (.int j) (fun y => y = vD (g i j)) := fun x y G H hs hx hy Q q => by
  cases hx; cases hy
  exact ⟨i, j, rfl, rfl, q _ _ G H rfl (dp_vD hg) (Adv.refl hs)⟩
theorem v2_I {C : Int → Int → Prop} {g : Int → Int → V} {i j : Int} (hc : C i j) (hg : okV (g i j) = true := by rfl) : V2 tp (rI C g) (.int i) (.int j) (fun y => y = vD (g i j)) := fun x y G H hs hx hy Q q => by
  cases hx; cases hy
  exact ⟨i, j, rfl, rfl, hc, q _ _ G H rfl (dp_vD hg) (Adv.refl hs)⟩
theorem v2_d {r : R2} {dx dy dz : PyData} (h : V2 tp r dx dy (fun y => y = dz)) : ∀ x y, x = dx → y = dy → V2 tp r x y (fun y => y = dz) := fun _ _ e1 e2 => by subst e1 e2; exact h
theorem e_add {i j : Int} (ha : Ed X tp Γ a (.int i)) (hb : Ed X tp Γ b (.int j)) : Ed X tp Γ (.BinOp a .Add b pos) (.int (i + j)) := e_op op_add ha hb (v2_d v2_I0)
theorem e_sub {i j : Int} (ha : Ed X tp Γ a (.int i)) (hb : Ed X tp Γ b (.int j)) : Ed X tp Γ (.BinOp a .Sub b pos) (.int (i - j)) := e_op op_sub ha hb (v2_d v2_I0)
theorem e_mul {i j : Int} (ha : Ed X tp Γ a (.int i)) (hb : Ed X tp Γ b (.int j)) (h : CMul i j) : Ed X tp Γ (.BinOp a .Mult b pos) (.int (i * j)) := e_op op_mul ha hb (v2_d (v2_I h))
theorem e_mod {i j : Int} (ha : Ed X tp Γ a (.int i)) (hb : Ed X tp Γ b (.int j)) (h : 0 < j) : Ed X tp Γ (.BinOp a .Mod b pos) (.int (i % j)) := e_op op_mod ha hb (v2_d (v2_I h))
theorem e_fdiv {i j : Int} (ha : Ed X tp Γ a (.int i)) (hb : Ed X tp Γ b (.int j)) (h : 0 < j ∧ j < 1073741824) : Ed X tp Γ (.BinOp a .FloorDiv b pos) (.int (i / j)) := e_op op_fdiv ha hb (v2_d (v2_I (C := CDiv) h))
theorem e_pow {i j : Int} (ha : Ed X tp Γ a (.int i)) (hb : Ed X tp Γ b (.int j)) (h : CPow i j) : Ed X tp Γ (.BinOp a .Pow b pos) (.int (i ^ j.toNat)) := e_op op_pow ha hb (v2_d (v2_I h))
theorem e_cat {x y : Str} (ha : Ed X tp Γ a (.str x)) (hb : Ed X tp Γ b (.str y)) (h : x.length + y.length ≤ sizeLine) : Ed X tp Γ (.BinOp a .Add b pos) (.str (x ++ y)) :=
  e_op op_add_str ha hb (v2_d fun v w G H hs hx hy Q q => by
    cases hx; cases hy
    exact ⟨x, y, rfl, rfl, h, q _ _ G H rfl (.str _) (Adv.refl hs)⟩)
theorem e_catT {xs ys : List PyData} (ha : Ed X tp Γ a (.tuple xs)) (hb : Ed X tp Γ b (.tuple ys)) (h : xs.length + ys.length ≤ sizeLine) : Ed X tp Γ (.BinOp a .Add b pos) (.tuple (xs ++ ys)) :=
  e_op op_catA ha hb (v2_d fun v w G H hs hx hy Q q => by
    cases hx with
    | tup s1 d1 =>
      rename_i p vs
      cases hy with
      | tup s2 d2 =>
        rename_i p2 ws
        refine ⟨p, p2, vs, ws, rfl, rfl, SqT.of (hs _ _ s1), SqT.of (hs _ _ s2), by rw [d1.length, d2.length]; exact h, fun e => ?_, fun _ e => ?_, fun _ _ t ht => ?_⟩
        · subst e
          cases d1
          exact q _ _ G H rfl (.tup s2 d2) (Adv.refl hs)
        · subst e
          cases d2
          rw [List.append_nil] at q
          exact q _ _ G H rfl (.tup s1 d1) (Adv.refl hs)
        · exact q _ _ _ _ rfl (.tup upd_same (DqAll.ex (Ex.new (fresh_back hs ht)) (d1.append d2))) (Adv.new hs ht))
theorem e_neg {i : Int} (ha : Ed X tp Γ a (.int i)) : Ed X tp Γ (.UnaryOp .USub a pos) (.int (-i)) :=
  e_of (pe_un un_neg pe_w) fun B σ G H hv Q q => ha B σ G H hv _ fun x dx G1 H1 px hx a1 => by
    subst px
    cases hx
    exact ⟨i, rfl, q _ _ G1 H1 rfl (.int _) a1⟩

/-! ### comparisons -/
/-- a comparison of two expressions -/
def Cm (X : Cx) (tp : TPar) (Γ : List Sl) (op : CmpOp) (a b : Expr) (P : Bool → Prop) : Prop :=
  ∃ r, OpR X (compareOp op) r ∧ behindInMarks op b = false ∧ ∀ (B : Bs) (σ : L2.St) (G H : Hp), Hv X.K B tp Γ σ G H → ∀ Q : VK, (∀ k G2 H2, P k → Adv tp G H G2 H2 → Q (.bl k) H2) → tOp r (wE X a) (wE X b) σ H Q
def V2b (tp : TPar) (r : R2) (dx dy : PyData) (R : Bool → Prop) : Prop :=
  ∀ (x y : V) (G H : Hp), Ex G H → Dq G x dx → Dq G y dy → ∀ Q : VK, (∀ k G2 H2, R k → Adv tp G H G2 H2 → Q (.bl k) H2) → r x y H Q
theorem c_op {op : CmpOp} {r : R2} {R : Bool → Prop} (ho : OpR X (compareOp op) r) (hm : behindInMarks op b = false) (ha : E X tp Γ a P) (hb : E X tp Γ b P') (h : ∀ dx dy, P dx → P' dy → V2b tp r dx dy R) : Cm X tp Γ op a b R :=
  ⟨r, ho, hm, fun B σ G H hv Q q => ha B σ G H hv _ fun x dx G1 H1 px hx a1 => hb B σ G1 H1 (hv.adv' a1) _ fun y dy G2 H2 py hy a2 =>
    h dx dy px py x y G2 H2 a2.sub (Dq.ex hx a2.gx) hy Q fun k G3 H3 hr a3 => q k G3 H3 hr ((a1.trans a2).trans a3)⟩
theorem v2b_d {r : R2} {dx dy : PyData} {k : Bool} (h : V2b tp r dx dy (fun y => y = k)) : ∀ x y, x = dx → y = dy → V2b tp r x y (fun y => y = k) := fun _ _ e1 e2 => by subst e1 e2; exact h
theorem v2b_I0 {g : Int → Int → Bool} {i j : Int} : V2b tp (rI0 fun i j => .bl (g i j)) (.int i) (.int j) (fun y => y = g i j) := fun x y G H hs hx hy Q q => by
  cases hx; cases hy
  exact ⟨i, j, rfl, rfl, q _ G H rfl (Adv.refl hs)⟩
theorem c_lt {i j : Int} (ha : Ed X tp Γ a (.int i)) (hb : Ed X tp Γ b (.int j)) : Cm X tp Γ .Lt a b (fun y => y = decide (i < j)) := c_op op_lt (nomark _) ha hb (v2b_d (v2b_I0 (g := fun i j => decide (i < j))))
theorem c_le {i j : Int} (ha : Ed X tp Γ a (.int i)) (hb : Ed X tp Γ b (.int j)) : Cm X tp Γ .LtE a b (fun y => y = decide (i ≤ j)) := c_op op_le (nomark _) ha hb (v2b_d (v2b_I0 (g := fun i j => decide (i ≤ j))))
theorem c_gt {i j : Int} (ha : Ed X tp Γ a (.int i)) (hb : Ed X tp Γ b (.int j)) : Cm X tp Γ .Gt a b (fun y => y = decide (j < i)) := c_op op_gt (nomark _) ha hb (v2b_d (v2b_I0 (g := fun i j => decide (j < i))))
theorem c_ge {i j : Int} (ha : Ed X tp Γ a (.int i)) (hb : Ed X tp Γ b (.int j)) : Cm X tp Γ .GtE a b (fun y => y = decide (j ≤ i)) := c_op op_ge (nomark _) ha hb (v2b_d (v2b_I0 (g := fun i j => decide (j ≤ i))))
/-- two plain things of one kind -/
def alike : PyData → PyData → Option Bool
  | .int i, .int j => some (decide (i = j))
  | .str i, .str j => some (decide (i = j))
  | .bool i, .bool j => some (decide (i = j))
  | _, _ => none
theorem v2b_eq {dx dy : PyData} {k : Bool} (h : alike dx dy = some k) : V2b tp rEq dx dy (fun y => y = k) := fun x y G H hs hx hy Q q => by
  cases hx <;> cases hy <;> first | (simp only [alike, reduceCtorEq] at h; done) | skip
  · refine ⟨rfl, q _ G H ?_ (Adv.refl hs)⟩
    have e := Option.some.inj h
    rw [dec_bl, ← e, Bool.beq_eq_decide_eq]
  · refine ⟨rfl, q _ G H ?_ (Adv.refl hs)⟩
    have e := Option.some.inj h
    rw [dec_int, ← e, Bool.beq_eq_decide_eq]
  · refine ⟨rfl, q _ G H ?_ (Adv.refl hs)⟩
    have e := Option.some.inj h
    rw [← e]
    exact decide_eq_decide.mpr ⟨fun z => V.str.inj z, fun z => by rw [z]⟩
theorem v2b_ne {dx dy : PyData} {k : Bool} (h : alike dx dy = some k) : V2b tp rNe dx dy (fun y => y = !k) := fun x y G H hs hx hy Q q => by
  cases hx <;> cases hy <;> first | (simp only [alike, reduceCtorEq] at h; done) | skip
  · refine ⟨rfl, q _ G H ?_ (Adv.refl hs)⟩
    have e := Option.some.inj h
    rw [dec_bl, ← e, Bool.beq_eq_decide_eq]
  · refine ⟨rfl, q _ G H ?_ (Adv.refl hs)⟩
    have e := Option.some.inj h
    rw [dec_int, ← e, Bool.beq_eq_decide_eq]
  · refine ⟨rfl, q _ G H ?_ (Adv.refl hs)⟩
    have e := Option.some.inj h
    rw [← e]
    exact congrArg _ (decide_eq_decide.mpr ⟨fun z => V.str.inj z, fun z => by rw [z]⟩)
theorem c_eq {dx dy : PyData} {k : Bool} (ha : Ed X tp Γ a dx) (hb : Ed X tp Γ b dy) (h : alike dx dy = some k := by rfl) : Cm X tp Γ .Eq a b (fun y => y = k) := c_op op_eq (nomark _) ha hb (v2b_d (v2b_eq h))
theorem c_ne {dx dy : PyData} {k : Bool} (ha : Ed X tp Γ a dx) (hb : Ed X tp Γ b dy) (h : alike dx dy = some k := by rfl) : Cm X tp Γ .NotEq a b (fun y => y = !k) := c_op op_ne (nomark _) ha hb (v2b_d (v2b_ne h))
/-- any data -/
theorem c_eqD {dx dy : PyData} (hu : X.A.units + 64 < cLine) (ha : Ed X tp Γ a dx) (hb : Ed X tp Γ b dy) (h1 : SeqAt.shaped dx = true) (h2 : SeqAt.shaped dy = true) : Cm X tp Γ .Eq a b (fun y => y = PyData.eqv dx dy) :=
  c_op (op_eqD hu) (nomark _) ha hb (v2b_d fun x y G H hs hx hy Q q => ⟨dx, dy, (Dq.ex hx hs).dp, (Dq.ex hy hs).dp, h1, h2, q _ G H rfl (Adv.refl hs)⟩)
theorem c_neD {dx dy : PyData} (hu : X.A.units + 64 < cLine) (ha : Ed X tp Γ a dx) (hb : Ed X tp Γ b dy) (h1 : SeqAt.shaped dx = true) (h2 : SeqAt.shaped dy = true) : Cm X tp Γ .NotEq a b (fun y => y = !PyData.eqv dx dy) :=
  c_op (op_neD hu) (nomark _) ha hb (v2b_d fun x y G H hs hx hy Q q => ⟨dx, dy, (Dq.ex hx hs).dp, (Dq.ex hy hs).dp, h1, h2, q _ G H rfl (Adv.refl hs)⟩)
theorem c_notInD {dx : PyData} {ds : List PyData} (hu : X.A.units + 65 < cLine) (ha : Ed X tp Γ a dx) (hb : Ed X tp Γ b (.list ds)) (h1 : SeqAt.shaped dx = true) (h2 : SeqAt.shaped (.list ds) = true) (hm : behindInMarks .NotIn b = false := by rfl) :
    Cm X tp Γ .NotIn a b (fun y => y = !ds.any fun z => PyData.eqv z dx) :=
  c_op (op_notInD hu) hm ha hb (v2b_d fun x y G H hs hx hy Q q => ⟨dx, ds, (Dq.ex hx hs).dp, (Dq.ex hy hs).dp, h1, h2, q _ G H rfl (Adv.refl hs)⟩)
/-- one sign in a text -/
theorem c_in {s : Nat} {z : Str} (ha : Ed X tp Γ a (.str ⟨#[s]⟩)) (hb : Ed X tp Γ b (.str z)) (hm : behindInMarks .In b = false := by rfl) : Cm X tp Γ .In a b (fun y => y = decide (s ∈ z.cps.toList)) :=
  c_op op_in_sign hm ha hb (v2b_d fun x y G H hs hx hy Q q => by
    cases hx; cases hy
    exact ⟨s, z, rfl, rfl, q _ G H rfl (Adv.refl hs)⟩)
/-- tuples of ints by order -/
theorem c_ltT {ns ms : List Int} (hu : X.A.units < cLine) (ha : Ed X tp Γ a (.tuple (ns.map .int))) (hb : Ed X tp Γ b (.tuple (ms.map .int))) : Cm X tp Γ .Lt a b (fun y => y = HT.lexLt ns ms) :=
  c_op (op_ltT hu) (nomark _) ha hb (v2b_d fun x y G H hs hx hy Q q => by
    cases hx with
    | tup s1 d1 =>
      cases hy with
      | tup s2 d2 =>
        rw [d1.ints] at s1
        rw [d2.ints] at s2
        exact ⟨_, _, ns, ms, rfl, rfl, SqT.of (hs _ _ s1), SqT.of (hs _ _ s2), q _ G H rfl (Adv.refl hs)⟩)
def isNon : PyData → Bool
  | .none => true
  | _ => false
theorem c_isN {dx : PyData} {j : Nat} {p : Pos} (ha : Ed X tp Γ a dx) : Cm X tp Γ .Is a (.Constant .none j p) (fun y => y = isNon dx) :=
  c_op op_isN (nomark _) ha e_non (v2b_d fun x y G H hs hx hy Q q => by
    cases hy
    refine ⟨rfl, q _ G H ?_ (Adv.refl hs)⟩
    cases hx <;> rfl)
/-- as a value, as a test -/
theorem e_cmp {op : CmpOp} {R : Bool → Prop} (h : Cm X tp Γ op a b R) : E X tp Γ (.Compare a [op] [b] pos) (fun d => ∃ k, R k ∧ d = .bool k) := by
  obtain ⟨r, ho, hm, h⟩ := h
  exact e_of (pe_cmpR ho pe_w pe_w hm) fun B σ G H hv Q q => h B σ G H hv Q fun k G2 H2 hr a => q _ _ G2 H2 ⟨k, hr, rfl⟩ (.bl k) a
theorem ed_cmp {op : CmpOp} {k : Bool} (h : Cm X tp Γ op a b (fun y => y = k)) : Ed X tp Γ (.Compare a [op] [b] pos) (.bool k) := e_mono (e_cmp h) fun _ ⟨_, e1, e2⟩ => e1 ▸ e2
theorem t_of {t : TT} {R : Bool → Prop} (h : PT X e t) (k : ∀ (B : Bs) (σ : L2.St) (G H : Hp), Hv X.K B tp Γ σ G H → ∀ Q : Bool → Hp → Prop, (∀ b G2 H2, R b → Adv tp G H G2 H2 → Q b H2) → t σ H Q) : T X tp Γ e R :=
  fun B σ G H hv Q q => wt_of h (k B σ G H hv Q q)
theorem t_cmp {op : CmpOp} {R : Bool → Prop} (h : Cm X tp Γ op a b R) : T X tp Γ (.Compare a [op] [b] pos) R := by
  obtain ⟨r, ho, hm, h⟩ := h
  exact t_of (pt_cmpR ho pe_w pe_w hm) fun B σ G H hv Q q => h B σ G H hv _ fun k G2 H2 hr a => ⟨k, rfl, q k G2 H2 hr a⟩
/-- a < b < c of ints -/
theorem t_chain {i j l : Int} (ha : Ed X tp Γ a (.int i)) (hb : Ed X tp Γ b (.int j)) (hc : Ed X tp Γ c (.int l)) (hm : lastMarks [CmpOp.Lt, CmpOp.Lt] [b, c] = false := by with_unfolding_all rfl) : Td X tp Γ (.Compare a [.Lt, .Lt] [b, c] pos) (decide (i < j) && decide (j < l)) :=
  t_of (pt_chain op_lt op_lt pe_w pe_w pe_w (hm := hm)) fun B σ G H hv Q q => by
    refine ha B σ G H hv _ fun x dx G1 H1 px hx a1 => ?_
    refine hb B σ G1 H1 (hv.adv' a1) _ fun y dy G2 H2 py hy a2 => ?_
    subst px py
    cases hx; cases hy
    refine ⟨i, j, rfl, rfl, decide (i < j), rfl, ?_⟩
    by_cases h : i < j
    · rw [decide_eq_true h, if_pos rfl]
      refine hc B σ G2 H2 ((hv.adv' a1).adv' a2) _ fun z dz G3 H3 pz hz a3 => ?_
      subst pz
      cases hz
      refine ⟨j, l, rfl, rfl, decide (j < l), rfl, q _ G3 H3 ?_ ((a1.trans a2).trans a3)⟩
      rw [decide_eq_true h, Bool.true_and]
    · rw [decide_eq_false h, if_neg Bool.false_ne_true]
      exact ⟨false, rfl, q _ G2 H2 (by rw [decide_eq_false h, Bool.false_and]) (a1.trans a2)⟩

/-! ### tests, and, or, not -/
/-- an expression whose value is a truth -/
theorem t_val {k : Bool} (h : Ed X tp Γ e (.bool k)) (he : ∀ whole, isTrue e X.env whole = (do let v ← whole; standAt e.pos; holding [v] (truthy v)) := by intro _; rfl) : Td X tp Γ e k :=
  t_of (pt_val pe_w he) fun B σ G H hv Q q => h B σ G H hv _ fun v d G2 H2 hd hx a => by
    subst hd
    cases hx
    exact ⟨k, rfl, q k G2 H2 rfl a⟩
theorem t_not {k : Bool} (h : Td X tp Γ a k) : Td X tp Γ (.UnaryOp .Not a pos) (!k) := t_of (pt_not pt_w) fun B σ G H hv Q q => h B σ G H hv _ fun v G2 H2 hd a => q _ G2 H2 (by rw [hd]) a
def wW (X : Cx) (e : Expr) : TT := fun σ H Q => ∀ whole pins s, Inv X pins σ H s → wpAny (model X.prog X.w) X.A (isTrue e X.env whole) (TP X pins σ Q) X.xe s
theorem pw_w : PW X e (wW X e) := ⟨fun whole pins s _ _ _ I h => h whole pins s I⟩
def W (X : Cx) (tp : TPar) (Γ : List Sl) (e : Expr) (P : Bool → Prop) : Prop :=
  ∀ (B : Bs) (σ : L2.St) (G H : Hp), Hv X.K B tp Γ σ G H → ∀ Q : Bool → Hp → Prop, (∀ b G2 H2, P b → Adv tp G H G2 H2 → Q b H2) → wW X e σ H Q
theorem w_of {t : TT} {R : Bool → Prop} (h : PW X e t) (k : ∀ (B : Bs) (σ : L2.St) (G H : Hp), Hv X.K B tp Γ σ G H → ∀ Q : Bool → Hp → Prop, (∀ b G2 H2, R b → Adv tp G H G2 H2 → Q b H2) → t σ H Q) : W X tp Γ e R :=
  fun B σ G H hv Q q whole pins s I => h.run whole pins s σ H Q I (k B σ G H hv Q q)
theorem t_w {R : Bool → Prop} (h : W X tp Γ e R) : T X tp Γ e R := t_of pw_w.pt h
variable {rest : List Expr}
theorem w_and1 {R : Bool → Prop} (h : T X tp Γ a R) : W X tp Γ (.BoolOp .And [a] pos) R := w_of (pw_and1 pt_w) h
theorem w_or1 {R : Bool → Prop} (h : T X tp Γ a R) : W X tp Γ (.BoolOp .Or [a] pos) R := w_of (pw_or1 pt_w) h
theorem w_and {P R : Bool → Prop} (h : T X tp Γ a P) (h1 : P true → W X tp Γ (.BoolOp .And (b :: rest) pos) R) (h0 : P false → R false) : W X tp Γ (.BoolOp .And (a :: b :: rest) pos) R :=
  w_of (pw_and pt_w pw_w) fun B σ G H hv Q q => h B σ G H hv _ fun k G2 H2 hk a => by
    cases k with
    | true =>
      rw [if_pos rfl]
      exact h1 hk B σ G2 H2 (hv.adv' a) Q fun k G3 H3 hr a3 => q k G3 H3 hr (a.trans a3)
    | false =>
      rw [if_neg Bool.false_ne_true]
      exact q false G2 H2 (h0 hk) a
theorem w_or {P R : Bool → Prop} (h : T X tp Γ a P) (h1 : P true → R true) (h0 : P false → W X tp Γ (.BoolOp .Or (b :: rest) pos) R) : W X tp Γ (.BoolOp .Or (a :: b :: rest) pos) R :=
  w_of (pw_or pt_w pw_w) fun B σ G H hv Q q => h B σ G H hv _ fun k G2 H2 hk a => by
    cases k with
    | true =>
      rw [if_pos rfl]
      exact q true G2 H2 (h1 hk) a
    | false =>
      rw [if_neg Bool.false_ne_true]
      exact h0 hk B σ G2 H2 (hv.adv' a) Q fun k G3 H3 hr a3 => q k G3 H3 hr (a.trans a3)
theorem wd_and {p q : Bool} (h : Td X tp Γ a p) (h1 : p = true → W X tp Γ (.BoolOp .And (b :: rest) pos) (fun y => y = q)) : W X tp Γ (.BoolOp .And (a :: b :: rest) pos) (fun y => y = (p && q)) :=
  w_and h (fun e => by subst e; rw [Bool.true_and]; exact h1 rfl) fun e => by subst e; rw [Bool.false_and]
theorem wd_or {p q : Bool} (h : Td X tp Γ a p) (h1 : p = false → W X tp Γ (.BoolOp .Or (b :: rest) pos) (fun y => y = q)) : W X tp Γ (.BoolOp .Or (a :: b :: rest) pos) (fun y => y = (p || q)) :=
  w_or h (fun e => by subst e; rw [Bool.true_or]) fun e => by subst e; rw [Bool.false_or]; exact h1 rfl
/-- as values -/
theorem e_one {op : BoolOp} (h : E X tp Γ a R) : E X tp Γ (.BoolOp op [a] pos) R := e_of (pe_one pe_w) h
theorem e_and {p q : Bool} (h : Ed X tp Γ a (.bool p)) (h1 : p = true → Ed X tp Γ (.BoolOp .And (b :: rest) pos) (.bool q)) : Ed X tp Γ (.BoolOp .And (a :: b :: rest) pos) (.bool (p && q)) :=
  e_of (pe_and pe_w pe_w) fun B σ G H hv Q z => h B σ G H hv _ fun v d G2 H2 hd hx a => by
    subst hd
    cases hx
    refine ⟨p, rfl, ?_⟩
    cases p with
    | true =>
      rw [if_pos rfl]
      exact h1 rfl B σ G2 H2 (hv.adv' a) Q fun v d G3 H3 hr hx a3 => z v d G3 H3 (by rw [Bool.true_and]; exact hr) hx (a.trans a3)
    | false =>
      rw [if_neg Bool.false_ne_true]
      exact z _ _ G2 H2 (by rw [Bool.false_and]) (.bl false) a
theorem e_not {k : Bool} (h : Ed X tp Γ a (.bool k)) : Ed X tp Γ (.UnaryOp .Not a pos) (.bool (!k)) := e_of (pe_not pe_w) fun B σ G H hv Q q => h B σ G H hv _ fun v d G2 H2 hd hx a => by
  subst hd
  cases hx
  exact ⟨k, rfl, q _ _ G2 H2 rfl (.bl _) a⟩
theorem e_if {P : Bool → Prop} (h : T X tp Γ c P) (h1 : P true → E X tp Γ a R) (h0 : P false → E X tp Γ b R) : E X tp Γ (.IfExp c a b pos) R := e_of (pe_ifExp pt_w pe_w pe_w) fun B σ G H hv Q q => h B σ G H hv _ fun k G2 H2 hk z => by
  cases k with
  | true =>
    rw [if_pos rfl]
    exact h1 hk B σ G2 H2 (hv.adv' z) Q fun v d G3 H3 hr hx a3 => q v d G3 H3 hr hx (z.trans a3)
  | false =>
    rw [if_neg Bool.false_ne_true]
    exact h0 hk B σ G2 H2 (hv.adv' z) Q fun v d G3 H3 hr hx a3 => q v d G3 H3 hr hx (z.trans a3)
end
end Ly


set_option Elab.async false
set_option linter.all false
set_option maxRecDepth 100000
set_option maxHeartbeats 2000000
namespace Ly
open PySem PySem.Spec PyProof.Rows L2 Evl
section
variable {X : Cx} {tp : TPar} {Γ : List Sl} {e a b c : Expr} {es : List Expr} {P P' R : PyData → Prop} {pos apos p2 : Pos} {K : PySem.W.Frag}

/-! ### argument lists, displays -/
theorem a_nil : Ad X tp Γ [] [] := fun B σ G H hv Q q => wa_of pa_nil (q [] G H .nil (Adv.refl hv.sub))
theorem a_cons {d : PyData} {ds : List PyData} (h : Ed X tp Γ e d) (hr : Ad X tp Γ es ds) (hs : starEach (e :: es) X.env = (false, eval e X.env) :: starEach es X.env := by rfl) : Ad X tp Γ (e :: es) (d :: ds) := fun B σ G H hv Q q =>
  wa_of (pa_cons pe_w pa_w hs) (h B σ G H hv _ fun v d' G2 H2 e' hx a1 => hr B σ G2 H2 (hv.adv' a1) _ fun vs G3 H3 hy a2 => q _ G3 H3 (.cons (e' ▸ Dq.ex hx a2.gx) hy) (a1.trans a2))
theorem e_tup {ds : List PyData} {x1 : Nat} (h : Ad X tp Γ es ds) (hl : ds.length ≤ 1000 := by exact Nat.le_of_ble_eq_true rfl) : Ed X tp Γ (.Tuple es x1 pos) (.tuple ds) :=
  e_of (pe_tup pa_w) fun B σ G H hv Q q => h B σ G H hv _ fun vs G2 H2 hd a1 => ⟨by rw [hd.length]; exact Nat.le_trans hl (by decide), fun p hp =>
    q _ _ _ _ rfl (.tup upd_same (DqAll.ex (Ex.new (fresh_back a1.sub hp)) hd)) (a1.trans (Adv.new a1.sub hp))⟩
theorem o_lst {ds : List PyData} (h : Ad X tp Γ es ds) (hl : ds.length ≤ 1000 := by exact Nat.le_of_ble_eq_true rfl) : Od X tp Γ (.List es pos) ds := fun B σ G H hv Q q =>
  we_of (pe_lst pa_w) (h B σ G H hv _ fun vs G2 H2 hd a1 => ⟨by rw [hd.length]; exact Nat.le_trans hl (by decide), fun p hp =>
    q p vs ds G2 _ rfl (a1.dom p hp) (fresh_back a1.sub hp) upd_same hd (a1.trans (Adv.hid a1.sub hp))⟩)
/-- [e], e one of many -/
theorem o_lst1 (h : E X tp Γ e P) (hs : starEach [e] X.env = (false, eval e X.env) :: starEach [] X.env := by rfl) : O X tp Γ (.List [e] pos) (fun xs => ∃ d, P d ∧ xs = [d]) := fun B σ G H hv Q q =>
  we_of (pe_lst (pa_cons pe_w pa_nil hs)) (h B σ G H hv _ fun v d G2 H2 hp hd a1 => ⟨(by show 1 ≤ sizeLine; decide), fun p hn =>
    q p [v] [d] G2 _ ⟨d, hp, rfl⟩ (a1.dom p hn) (fresh_back a1.sub hn) upd_same (.one hd) (a1.trans (Adv.hid a1.sub hn))⟩)

/-! ### places -/
theorem ixN_len {n m : Nat} (h : n = m) (i : Int) : ixN n i = ixN m i := by rw [h]
theorem atI_dp {G : Hp} {vs : List V} {ds : List PyData} (h : DqAll G vs ds) {i : Int} {d : PyData} (e : atI ds i = some d) : ∃ v, atI vs i = some v ∧ Dq G v d := by
  unfold atI at e ⊢
  rw [h.length]
  cases q : ixN ds.length i with
  | none => rw [q] at e; cases e
  | some j =>
    rw [q] at e
    exact h.get e
theorem v2_ixT {ds : List PyData} {i : Int} {d : PyData} (e : atI ds i = some d) : V2 tp (rIxT K) (.tuple ds) (.int i) (fun y => y = d) := fun x y G H hs hx hy Q q => by
  cases hy
  cases hx with
  | tup s1 d1 =>
    obtain ⟨v, ev, hv⟩ := atI_dp d1 e
    exact ⟨_, _, i, v, rfl, rfl, SqT.of (hs _ _ s1), ev, q v d G H rfl hv (Adv.refl hs)⟩
theorem v2_ixL {ds : List PyData} {i : Int} {d : PyData} (e : atI ds i = some d) : V2 tp (rIxL K) (.list ds) (.int i) (fun y => y = d) := fun x y G H hs hx hy Q q => by
  cases hy
  cases hx with
  | lst s1 d1 =>
    obtain ⟨v, ev, hv⟩ := atI_dp d1 e
    exact ⟨_, _, i, v, rfl, rfl, SqL.of (hs _ _ s1), ev, q v d G H rfl hv (Adv.refl hs)⟩
theorem v2_ixS {z : Str} {i : Int} {c : Nat} (hz : z.length ≤ 100000) (e : atI z.cps.toList i = some c) : V2 tp rIxS (.str z) (.int i) (fun y => y = .str ⟨#[c]⟩) := fun x y G H hs hx hy Q q => by
  cases hy
  cases hx
  exact ⟨z, i, c, rfl, rfl, Nat.le_trans hz (by decide), e, q _ _ G H rfl (.str _) (Adv.refl hs)⟩
theorem e_ix {r : R2} (hr : IxR X r) (ha : E X tp Γ a P) (hb : E X tp Γ b P') (h : ∀ dx dy, P dx → P' dy → V2 tp r dx dy R) (hs : PlainIx b := by exact fun _ _ => rfl) : E X tp Γ (.Subscript a b pos) R :=
  e_of (pe_ix hr pe_w pe_w hs) (top_of ha hb h)
theorem e_ixT {ds : List PyData} {i : Int} {d : PyData} (ha : Ed X tp Γ a (.tuple ds)) (hb : Ed X tp Γ b (.int i)) (e : atI ds i = some d) (hs : PlainIx b := by exact fun _ _ => rfl) : Ed X tp Γ (.Subscript a b pos) d := e_ix ix_tup ha hb (v2_d (v2_ixT e)) hs
theorem e_ixL {ds : List PyData} {i : Int} {d : PyData} (ha : Ed X tp Γ a (.list ds)) (hb : Ed X tp Γ b (.int i)) (e : atI ds i = some d) (hs : PlainIx b := by exact fun _ _ => rfl) : Ed X tp Γ (.Subscript a b pos) d := e_ix ix_list ha hb (v2_d (v2_ixL e)) hs
theorem e_ixS {z : Str} {i : Int} {c : Nat} (ha : Ed X tp Γ a (.str z)) (hb : Ed X tp Γ b (.int i)) (hz : z.length ≤ 100000) (e : atI z.cps.toList i = some c) (hs : PlainIx b := by exact fun _ _ => rfl) : Ed X tp Γ (.Subscript a b pos) (.str ⟨#[c]⟩) := e_ix ix_str ha hb (v2_d (v2_ixS hz e)) hs

/-! ### slices -/
/-- an optional part of a slice -/
def Po (X : Cx) (tp : TPar) (Γ : List Sl) : Option Expr → Option Int → Prop
  | none, o => o = none
  | some e, o => ∃ i, o = some i ∧ Ed X tp Γ e (.int i)
theorem po_no : Po X tp Γ none none := rfl
theorem po_yes {i : Int} (h : Ed X tp Γ e (.int i)) : Po X tp Γ (some e) (some i) := ⟨i, rfl, h⟩
def wO (X : Cx) : Option Expr → TO
  | none => tNoPart
  | some e => tPart (wE X e)
theorem po_w : ∀ {o : Option Expr}, PO X o (wO X o)
  | none => po_none
  | some _ => po_some pe_w
theorem wO_of {o : Option Expr} {v : Option Int} (h : Po X tp Γ o v) (B : Bs) (σ : L2.St) (G H : Hp) (hv : Hv X.K B tp Γ σ G H) (Q : Option Int → Hp → Prop) (q : ∀ G2 H2, Adv tp G H G2 H2 → Q v H2) : wO X o σ H Q := by
  cases o with
  | none =>
    cases h
    exact q G H (Adv.refl hv.sub)
  | some e =>
    obtain ⟨i, rfl, he⟩ := h
    exact he B σ G H hv _ fun w d G2 H2 hd hx a => by
      subst hd
      cases hx
      exact ⟨i, rfl, q G2 H2 a⟩
variable {lo hi : Option Expr} {l u : Option Int}
theorem e_slS {z : Str} (he : Ed X tp Γ e (.str z)) (hl : Po X tp Γ lo l) (hu : Po X tp Γ hi u) (hz : z.length ≤ 100000) : Ed X tp Γ (.Subscript e (.Slice lo hi none p2) pos) (.str (cutS z l u)) :=
  e_of (pe_slice sl_str pe_w po_w po_w) fun B σ G H hv Q q => he B σ G H hv _ fun v d G1 H1 hd hx a1 => by
    subst hd
    cases hx
    exact wO_of hl B σ G1 H1 (hv.adv' a1) _ fun G2 H2 a2 => wO_of hu B σ G2 H2 ((hv.adv' a1).adv' a2) _ fun G3 H3 a3 => ⟨z, rfl, Nat.le_trans hz (by decide), q _ _ G3 H3 rfl (.str _) ((a1.trans a2).trans a3)⟩
/-- the same cut of any list -/
def cutD {α : Type} (xs : List α) (lo hi : Option Int) : List α := (xs.drop (HT.sIx xs.length 0 lo)).take (HT.sIx xs.length xs.length hi - HT.sIx xs.length 0 lo)
theorem cut_dp {G : Hp} {vs : List V} {ds : List PyData} (h : DqAll G vs ds) (lo hi : Option Int) : DqAll G (cutV vs lo hi) (cutD ds lo hi) := by
  unfold cutV cutD
  rw [h.length]
  exact (h.drop _).take _
theorem e_slT {ds : List PyData} (he : Ed X tp Γ e (.tuple ds)) (hl : Po X tp Γ lo l) (hu : Po X tp Γ hi u) : Ed X tp Γ (.Subscript e (.Slice lo hi none p2) pos) (.tuple (cutD ds l u)) :=
  e_of (pe_slice sl_tupA pe_w po_w po_w) fun B σ G H hv Q q => he B σ G H hv _ fun v d G1 H1 hd hx a1 => by
    subst hd
    cases hx with
    | tup s1 d1 =>
      rename_i p vs
      refine wO_of hl B σ G1 H1 (hv.adv' a1) _ fun G2 H2 a2 => wO_of hu B σ G2 H2 ((hv.adv' a1).adv' a2) _ fun G3 H3 a3 => ?_
      have ex := a2.gx.trans a3.gx
      refine ⟨p, vs, rfl, SqT.of (a3.sub _ _ (ex _ _ s1)), fun w => ?_, fun _ t ht => ?_⟩
      · refine q _ _ G3 H3 rfl (.tup (ex _ _ s1) ?_) ((a1.trans a2).trans a3)
        have ec : cutV vs l u = vs := by
          unfold cutV
          rw [w.1, w.2, List.drop_zero, Nat.sub_zero, List.take_length]
        have := cut_dp (DqAll.ex ex d1) l u
        rw [ec] at this
        exact this
      · exact q _ _ _ _ rfl (.tup upd_same (DqAll.ex (Ex.new (fresh_back a3.sub ht)) (cut_dp (DqAll.ex ex d1) l u))) (((a1.trans a2).trans a3).trans (Adv.new a3.sub ht))
theorem o_slL {ds : List PyData} (he : Ed X tp Γ e (.list ds)) (hl : Po X tp Γ lo l) (hu : Po X tp Γ hi u) : Od X tp Γ (.Subscript e (.Slice lo hi none p2) pos) (cutD ds l u) := fun B σ G H hv Q q =>
  we_of (pe_slice sl_list pe_w po_w po_w) (he B σ G H hv _ fun v d G1 H1 hd hx a1 => by
    subst hd
    cases hx with
    | lst s1 d1 =>
      rename_i p vs
      refine wO_of hl B σ G1 H1 (hv.adv' a1) _ fun G2 H2 a2 => wO_of hu B σ G2 H2 ((hv.adv' a1).adv' a2) _ fun G3 H3 a3 => ?_
      have ex := a2.gx.trans a3.gx
      have at' := (a1.trans a2).trans a3
      exact ⟨p, vs, rfl, SqL.of (a3.sub _ _ (ex _ _ s1)), fun t ht => q t _ _ G3 _ rfl (at'.dom t ht) (fresh_back a3.sub ht) upd_same (cut_dp (DqAll.ex ex d1) l u) (at'.trans (Adv.hid a3.sub ht))⟩)
/-- two new lists, one behind the other -/
theorem o_cat {xs ys : List PyData} (ha : Od X tp Γ a xs) (hb : Od X tp Γ b ys) (h : xs.length + ys.length ≤ 1000) : Od X tp Γ (.BinOp a .Add b pos) (xs ++ ys) := fun B σ G H hv Q q =>
  we_of (pe_op op_cat pe_w pe_w) (ha B σ G H hv _ fun p vs xs' G1 H1 e1 n1 g1 h1 d1 a1 => hb B σ G1 H1 (hv.adv' a1) _ fun p2 ws ys' G2 H2 e2 n2 g2 h2 d2 a2 => by
    subst e1 e2
    have nt : ∀ t, tp = some t → p ≠ t.1 := fun t z w => by
      obtain ⟨i, j, k, _, _, _, hh⟩ := (hv.tape t z).1
      rw [← w, n1] at hh
      cases hh
    have h1' : H2 p = some (.lst vs) := a2.hx p _ h1 nt
    refine ⟨p, p2, vs, ws, rfl, rfl, h1', h2, by rw [d1.length, d2.length]; exact Nat.le_trans h (by decide), fun t ht => ?_⟩
    exact q t _ _ G2 _ rfl ((a1.trans a2).dom t ht) (fresh_back a2.sub ht) upd_same ((DqAll.ex a2.gx d1).append d2) ((a1.trans a2).trans (Adv.hid a2.sub ht)))

/-! ### built-ins by name -/
def VC (tp : TPar) (r : List V → Hp → VK → Prop) (ds : List PyData) (R : PyData → Prop) : Prop :=
  ∀ (vs : List V) (G H : Hp), Ex G H → DqAll G vs ds → ∀ Q : VK, (∀ v d G2 H2, R d → Dq G2 v d → Adv tp G H G2 H2 → Q v H2) → r vs H Q
def VCo (tp : TPar) (r : List V → Hp → VK → Prop) (ds : List PyData) (R : List PyData → Prop) : Prop :=
  ∀ (vs : List V) (G H : Hp), Ex G H → DqAll G vs ds → ∀ Q : VK, (∀ p ws xs G2 H2, R xs → H p = none → G2 p = none → H2 p = some (.lst ws) → DqAll G2 ws xs → Adv tp G H G2 H2 → Q (.ref p) H2) → r vs H Q
theorem e_blt {id : String} {x : Str} {r : List V → Hp → VK → Prop} {ds : List PyData} (hc : CallR X (.builtin id) r) (hm : X.mg x = none) (hv : bootBuiltins x = some (.builtin id)) (ha : Ad X tp Γ (e :: es) ds) (h : VC tp r ds R)
    (hg : Gl X x := by rfl) (hn : x ≠ "__name__" := by decide) (hdb : (x == ("__debug__" : Str)) = false := by decide) (he : starEach (e :: es) X.env = (false, eval e X.env) :: starEach es X.env := by rfl) (hpl : (backTo pos (starEach es X.env)).any (·.1) = false := by rfl) :
    E X tp Γ (.Call (.Name x p2) (e :: es) [] pos) R :=
  e_of (pe_callB hc hg hm hv pa_w hn hdb he hpl) fun B σ G H hv Q q => ha B σ G H hv _ fun vs G2 H2 hd a => h vs G2 H2 a.sub hd Q fun v d G3 H3 hr hx a3 => q v d G3 H3 hr hx (a.trans a3)
theorem o_blt {id : String} {x : Str} {r : List V → Hp → VK → Prop} {ds : List PyData} {R : List PyData → Prop} (hc : CallR X (.builtin id) r) (hm : X.mg x = none) (hv : bootBuiltins x = some (.builtin id)) (ha : Ad X tp Γ (e :: es) ds) (h : VCo tp r ds R)
    (hg : Gl X x := by rfl) (hn : x ≠ "__name__" := by decide) (hdb : (x == ("__debug__" : Str)) = false := by decide) (he : starEach (e :: es) X.env = (false, eval e X.env) :: starEach es X.env := by rfl) (hpl : (backTo pos (starEach es X.env)).any (·.1) = false := by rfl) :
    O X tp Γ (.Call (.Name x p2) (e :: es) [] pos) R := fun B σ G H hv' Q q =>
  we_of (pe_callB hc hg hm hv pa_w hn hdb he hpl) (ha B σ G H hv' _ fun vs G2 H2 hd a => h vs G2 H2 a.sub hd Q fun p ws xs G3 H3 hr hn hg hh hx a3 => q p ws xs G3 H3 hr (a.dom p hn) hg hh hx (a.trans a3))
theorem e_typ {T : String} {x : Str} {r : List V → Hp → VK → Prop} {ds : List PyData} (hc : CallR X (.type T) r) (hm : X.mg x = none) (hv : bootBuiltins x = some (.type T)) (ha : Ad X tp Γ (e :: es) ds) (h : VC tp r ds R)
    (hg : Gl X x := by rfl) (hn : x ≠ "__name__" := by decide) (hdb : (x == ("__debug__" : Str)) = false := by decide) (he : starEach (e :: es) X.env = (false, eval e X.env) :: starEach es X.env := by rfl) (hpl : (backTo pos (starEach es X.env)).any (·.1) = false := by rfl) :
    E X tp Γ (.Call (.Name x p2) (e :: es) [] pos) R :=
  e_of (pe_callTy hc hg hm hv pa_w hn hdb he hpl) fun B σ G H hv Q q => ha B σ G H hv _ fun vs G2 H2 hd a => h vs G2 H2 a.sub hd Q fun v d G3 H3 hr hx a3 => q v d G3 H3 hr hx (a.trans a3)
theorem o_typ {T : String} {x : Str} {r : List V → Hp → VK → Prop} {ds : List PyData} {R : List PyData → Prop} (hc : CallR X (.type T) r) (hm : X.mg x = none) (hv : bootBuiltins x = some (.type T)) (ha : Ad X tp Γ (e :: es) ds) (h : VCo tp r ds R)
    (hg : Gl X x := by rfl) (hn : x ≠ "__name__" := by decide) (hdb : (x == ("__debug__" : Str)) = false := by decide) (he : starEach (e :: es) X.env = (false, eval e X.env) :: starEach es X.env := by rfl) (hpl : (backTo pos (starEach es X.env)).any (·.1) = false := by rfl) :
    O X tp Γ (.Call (.Name x p2) (e :: es) [] pos) R := fun B σ G H hv' Q q =>
  we_of (pe_callTy hc hg hm hv pa_w hn hdb he hpl) (ha B σ G H hv' _ fun vs G2 H2 hd a => h vs G2 H2 a.sub hd Q fun p ws xs G3 H3 hr hn hg hh hx a3 => q p ws xs G3 H3 hr (a.dom p hn) hg hh hx (a.trans a3))
def lenD : PyData → Option Nat
  | .str z => some z.length
  | .list ds => some ds.length
  | .tuple ds => some ds.length
  | _ => none
theorem e_len {d : PyData} {n : Nat} (hm : X.mg "len" = none) (h : Ed X tp Γ e d) (hn : lenD d = some n := by rfl) (hz : n ≤ 1000000)
    (hg : Gl X "len" := by rfl) (he : starEach [e] X.env = (false, eval e X.env) :: starEach [] X.env := by rfl) (hpl : (backTo pos (starEach [] X.env)).any (·.1) = false := by rfl) :
    Ed X tp Γ (.Call (.Name "len" p2) [e] [] pos) (.int n) :=
  e_blt (call_len_seq.or call_len_str) hm PySem.boot_len (a_cons h a_nil he) (fun vs G H hs hd Q q => by
    cases hd with
    | cons h1 h2 =>
      cases h2
      cases h1 with
      | str z =>
        cases hn
        exact .inr ⟨z, rfl, Nat.le_trans hz (by decide), q _ _ G H rfl (.int _) (Adv.refl hs)⟩
      | lst s1 d1 =>
        cases hn
        refine .inl ⟨_, _, rfl, .inl (SqL.of (hs _ _ s1)), ?_⟩
        rw [d1.length]
        exact q _ _ G H rfl (.int _) (Adv.refl hs)
      | tup s1 d1 =>
        cases hn
        refine .inl ⟨_, _, rfl, .inr (SqT.of (hs _ _ s1)), ?_⟩
        rw [d1.length]
        exact q _ _ G H rfl (.int _) (Adv.refl hs)
      | non => cases hn
      | bl _ => cases hn
      | int _ => cases hn) hg (by decide) (by decide) he hpl
/-- list(xs), tuple(xs) -/
theorem o_list {ds : List PyData} (hm : X.mg "list" = none) (h : Ed X tp Γ e (.list ds) ∨ Ed X tp Γ e (.tuple ds))
    (hg : Gl X "list" := by rfl) (he : starEach [e] X.env = (false, eval e X.env) :: starEach [] X.env := by rfl) (hpl : (backTo pos (starEach [] X.env)).any (·.1) = false := by rfl) :
    Od X tp Γ (.Call (.Name "list" p2) [e] [] pos) ds := by
  rcases h with h | h
  · exact o_typ call_list_of hm (by decide +kernel) (a_cons h a_nil he) (fun vs G H hs hd Q q => by
      cases hd with
      | cons h1 h2 =>
        cases h2
        cases h1 with
        | lst s1 d1 => exact ⟨_, _, rfl, .inl (SqL.of (hs _ _ s1)), fun t ht => q t _ _ G _ rfl ht (fresh_back hs ht) upd_same d1 (Adv.hid hs ht)⟩) hg (by decide) (by decide) he hpl
  · exact o_typ call_list_of hm (by decide +kernel) (a_cons h a_nil he) (fun vs G H hs hd Q q => by
      cases hd with
      | cons h1 h2 =>
        cases h2
        cases h1 with
        | tup s1 d1 => exact ⟨_, _, rfl, .inr (SqT.of (hs _ _ s1)), fun t ht => q t _ _ G _ rfl ht (fresh_back hs ht) upd_same d1 (Adv.hid hs ht)⟩) hg (by decide) (by decide) he hpl
theorem e_tuple {ds : List PyData} (hm : X.mg "tuple" = none) (h : Ed X tp Γ e (.list ds))
    (hg : Gl X "tuple" := by rfl) (he : starEach [e] X.env = (false, eval e X.env) :: starEach [] X.env := by rfl) (hpl : (backTo pos (starEach [] X.env)).any (·.1) = false := by rfl) :
    Ed X tp Γ (.Call (.Name "tuple" p2) [e] [] pos) (.tuple ds) :=
  e_typ call_tuple_of hm (by decide +kernel) (a_cons h a_nil he) (fun vs G H hs hd Q q => by
    cases hd with
    | cons h1 h2 =>
      cases h2
      cases h1 with
      | lst s1 d1 => exact ⟨_, _, rfl, .inl ⟨SqL.of (hs _ _ s1), fun t ht => q _ _ _ _ rfl (.tup upd_same (DqAll.ex (Ex.new (fresh_back hs ht)) d1)) (Adv.new hs ht)⟩⟩) hg (by decide) (by decide) he hpl
theorem e_sum {ns : List Int} (hc : X.calm = true) (hm : X.mg "sum" = none) (h : Ed X tp Γ e (.list (ns.map .int)))
    (hg : Gl X "sum" := by rfl) (he : starEach [e] X.env = (false, eval e X.env) :: starEach [] X.env := by rfl) (hpl : (backTo pos (starEach [] X.env)).any (·.1) = false := by rfl) :
    Ed X tp Γ (.Call (.Name "sum" p2) [e] [] pos) (.int ns.sum) :=
  e_blt (cr_sum hc) hm (by decide +kernel) (a_cons h a_nil he) (fun vs G H hs hd Q q => by
    cases hd with
    | cons h1 h2 =>
      cases h2
      cases h1 with
      | lst s1 d1 =>
        rw [d1.ints] at s1
        exact ⟨_, ns, rfl, SqL.of (hs _ _ s1), q _ _ G H rfl (.int _) (Adv.refl hs)⟩) hg (by decide) (by decide) he hpl
theorem e_all {bs : List Bool} (hc : X.calm = true) (hm : X.mg "all" = none) (h : Ed X tp Γ e (.list (bs.map .bool)))
    (hg : Gl X "all" := by rfl) (he : starEach [e] X.env = (false, eval e X.env) :: starEach [] X.env := by rfl) (hpl : (backTo pos (starEach [] X.env)).any (·.1) = false := by rfl) :
    Ed X tp Γ (.Call (.Name "all" p2) [e] [] pos) (.bool (bs.all id)) :=
  e_blt (cr_all hc) hm (by decide +kernel) (a_cons h a_nil he) (fun vs G H hs hd Q q => by
    cases hd with
    | cons h1 h2 =>
      cases h2
      cases h1 with
      | lst s1 d1 =>
        rw [d1.bools] at s1
        exact ⟨_, bs, rfl, SqL.of (hs _ _ s1), q _ _ G H rfl (.bl _) (Adv.refl hs)⟩) hg (by decide) (by decide) he hpl
theorem e_min2 {i j : Int} (hc : X.calm = true) (hm : X.mg "min" = none) (ha : Ed X tp Γ a (.int i)) (hb : Ed X tp Γ b (.int j))
    (hg : Gl X "min" := by rfl) (he : starEach [a, b] X.env = (false, eval a X.env) :: starEach [b] X.env := by rfl) (he2 : starEach [b] X.env = (false, eval b X.env) :: starEach [] X.env := by rfl) (hpl : (backTo pos (starEach [b] X.env)).any (·.1) = false := by rfl) :
    Ed X tp Γ (.Call (.Name "min" p2) [a, b] [] pos) (.int (if j < i then j else i)) :=
  e_blt (call_min2 hc) hm (by decide +kernel) (a_cons ha (a_cons hb a_nil he2) he) (fun vs G H hs hd Q q => by
    cases hd with
    | cons h1 h2 =>
      cases h2 with
      | cons h2 h3 =>
        cases h3
        cases h1
        cases h2
        exact ⟨i, j, rfl, q _ _ G H rfl (.int _) (Adv.refl hs)⟩) hg (by decide) (by decide) he hpl
/-- isinstance(x, T), T a built-in class -/
def tyD : PyData → String
  | .none => "NoneType"
  | .bool _ => "bool"
  | .int _ => "int"
  | .str _ => "str"
  | .list _ => "list"
  | .tuple _ => "tuple"
  | .dict _ => "dict"
theorem tyx_of {H : Hp} {v : V} {d : PyData} (h : Dp K H v d) : TyX K H v (.type (tyD d)) := by
  cases h with
  | non => exact .base .non
  | bl b => exact .base (.bl b)
  | int i => exact .base (.int i)
  | str x => exact .base (.str x)
  | lst s _ =>
    rcases s with (s | ⟨o, s⟩) | ⟨o, its, n, l, c, _⟩
    · exact .base (.lst s)
    · exact .base (.frz s)
    · exact .kList l c
  | tup s _ =>
    rcases s with (s | ⟨o, s⟩) | ⟨o, its, n, l, c, _⟩
    · exact .base (.tup s)
    · exact .fTuple s
    · exact .kTuple l c
theorem e_isi {d : PyData} {T : String} {x : Str} {k : Bool} {p3 : Pos} (hm : X.mg "isinstance" = none) (hm2 : X.mg x = none) (hv2 : bootBuiltins x = some (.type T)) (h : Ed X tp Γ e d) (hk : PySem.W.kitOne X.K (.type (tyD d)) (.type T) = some k)
    (hg : Gl X "isinstance" := by rfl) (hg2 : Gl X x := by rfl) (hn2 : x ≠ "__name__" := by decide) (hdb2 : (x == ("__debug__" : Str)) = false := by decide)
    (he : starEach [e, .Name x p3] X.env = (false, eval e X.env) :: starEach [.Name x p3] X.env := by rfl) (he2 : starEach [.Name x p3] X.env = (false, eval (.Name x p3) X.env) :: starEach [] X.env := by rfl) (hpl : (backTo pos (starEach [.Name x p3] X.env)).any (·.1) = false := by rfl) :
    Ed X tp Γ (.Call (.Name "isinstance" p2) [e, .Name x p3] [] pos) (.bool k) :=
  e_of (pe_callB call_isi hg hm (by decide +kernel) (pa_cons pe_w (pa_cons (pe_bltn (v := .ty T) hg2 hm2 hv2 rfl hn2 hdb2) pa_nil he2) he) (by decide) (by decide) he hpl) fun B σ G H hv Q q => h B σ G H hv _ fun v d' G2 H2 hd hx a => by
    subst hd
    exact ⟨v, .ty T, _, _, k, rfl, .ty T, tyx_of (Dq.ex hx a.sub).dp, hk, q _ _ G2 H2 rfl (.bl k) a⟩

/-! ### methods of texts and lists -/
theorem e_lower {z : Str} (h : Ed X tp Γ e (.str z)) (hz : z.length ≤ 100000) (hbase : attributeBase e "lower" X.env (eval e X.env) = eval e X.env := by rfl) (hline : (apos.endLine == pos.line) = true := by rfl) :
    Ed X tp Γ (.Call (.Attribute e "lower" apos) [] [] pos) (.str (Txt.lower z)) :=
  e_of (pe_lower pe_w hbase hline) fun B σ G H hv Q q => h B σ G H hv _ fun v d G2 H2 hd hx a => by
    subst hd
    cases hx
    exact ⟨⟨z, rfl⟩, z, rfl, rfl, by omega, q _ _ G2 H2 rfl (.str _) a⟩
theorem e_upper {z : Str} (h : Ed X tp Γ e (.str z)) (hz : z.length ≤ 100000) (hbase : attributeBase e "upper" X.env (eval e X.env) = eval e X.env := by rfl) (hline : (apos.endLine == pos.line) = true := by rfl) :
    Ed X tp Γ (.Call (.Attribute e "upper" apos) [] [] pos) (.str (Txt.upper z)) :=
  e_of (pe_upper pe_w hbase hline) fun B σ G H hv Q q => h B σ G H hv _ fun v d G2 H2 hd hx a => by
    subst hd
    cases hx
    exact ⟨⟨z, rfl⟩, z, rfl, rfl, by omega, q _ _ G2 H2 rfl (.str _) a⟩
theorem e_join {z : Str} {ss : List Str} (h : Ed X tp Γ e (.str z)) (ha : E X tp Γ a P) (hP : ∀ d, P d → d = .list (ss.map .str) ∨ d = .tuple (ss.map .str)) (hz : (ss.map (·.length)).sum + ss.length * z.length ≤ 16777216)
    (hs : starEach [a] X.env = [(false, eval a X.env)] := by rfl) (hbase : attributeBase e "join" X.env (eval e X.env) = eval e X.env := by rfl) (hline : (apos.endLine == pos.line) = true := by rfl) :
    Ed X tp Γ (.Call (.Attribute e "join" apos) [a] [] pos) (.str (Txt.join z ss)) :=
  e_of (pe_join pe_w pe_w hs hbase hline) fun B σ G H hv Q q => h B σ G H hv _ fun v d G2 H2 hd hx a2 => by
    subst hd
    cases hx
    refine ⟨⟨z, rfl⟩, ha B σ G2 H2 (hv.adv' a2) _ fun v d G3 H3 hd hx a3 => ?_⟩
    rcases hP d hd with e | e
    · subst e
      cases hx with
      | lst s1 d1 =>
        rw [d1.strs] at s1
        exact ⟨z, _, ss, rfl, rfl, .inl (SqL.of (a3.sub _ _ s1)), hz, q _ _ G3 H3 rfl (.str _) (a2.trans a3)⟩
    · subst e
      cases hx with
      | tup s1 d1 =>
        rw [d1.strs] at s1
        exact ⟨z, _, ss, rfl, rfl, .inr (SqT.of (a3.sub _ _ s1)), hz, q _ _ G3 H3 rfl (.str _) (a2.trans a3)⟩
theorem e_sindex {z y : Str} {i : Nat} {rest : List Nat} (h : Ed X tp Γ e (.str z)) (ha : Ed X tp Γ a (.str y)) (ho : Builtin.Str.occurrences z y 0 z.length 1 = i :: rest)
    (hs : starEach [a] X.env = [(false, eval a X.env)] := by rfl) (hbase : attributeBase e "index" X.env (eval e X.env) = eval e X.env := by rfl) (hline : (apos.endLine == pos.line) = true := by rfl) :
    Ed X tp Γ (.Call (.Attribute e "index" apos) [a] [] pos) (.int i) :=
  e_of (pe_m1 PySem.F.slot_str_index PySem.F.type_str_index mt_sindex pe_w pe_w hs hbase hline) fun B σ G H hv Q q => h B σ G H hv _ fun v d G2 H2 hd hx a2 => by
    subst hd
    cases hx
    refine ⟨⟨z, rfl⟩, ha B σ G2 H2 (hv.adv' a2) _ fun v d G3 H3 hd hx a3 => ?_⟩
    subst hd
    cases hx
    exact ⟨z, y, i, rest, rfl, rfl, ho, q _ _ G3 H3 rfl (.int _) (a2.trans a3)⟩

/-- xs.index(x) of any data: its first place -/
theorem e_lindex {ds : List PyData} {d z : PyData} {j : Nat} (hu : X.A.units + 65 < cLine) (h : Ed X tp Γ e (.list ds)) (ha : Ed X tp Γ a d) (h1 : SeqAt.shaped (.list ds) = true) (h2 : SeqAt.shaped d = true) (h3 : ds[j]? = some z) (h4 : PyData.eqv z d = true)
    (h5 : ∀ (m : Nat) (z' : PyData), m < j → ds[m]? = some z' → PyData.eqv z' d = false)
    (hs : starEach [a] X.env = (false, eval a X.env) :: starEach [] X.env := by rfl) (hbase : attributeBase e "index" X.env (eval e X.env) = eval e X.env := by rfl) (hline : (apos.endLine == pos.line) = true := by rfl)
    (hfew : ((backTo pos (starEach [a] X.env)).all (fun x => !x.1) && (backToKw pos (keywordEach [] X.env)).all (fun x => x.1.isSome) && decide (([a] : List Expr).length + ([] : List Keyword).length + (if ([] : List Keyword).isEmpty then 0 else 1) < 30)) = true := by rfl)
    (hpl : (backTo pos (starEach [] X.env)).any (·.1) = false := by rfl) :
    Ed X tp Γ (.Call (.Attribute e "index" apos) [a] [] pos) (.int j) :=
  e_of (pe_bm PySem.F.plainAttrs_list PySem.F.slot_list_index PySem.F.type_list_index (mt_indexD hu) pe_w pa_w hbase hfew hline hs hpl) fun B σ G H hv Q q => h B σ G H hv _ fun v d' G2 H2 hd hx a2 => by
    subst hd
    cases hx with
    | lst s1 d1 =>
      refine ⟨.inl ⟨rfl, _, SqL.of (a2.sub _ _ s1)⟩, a_cons ha a_nil hs B σ G2 H2 (hv.adv' a2) _ fun vs G3 H3 hd a3 => ?_⟩
      cases hd with
      | cons hy hn =>
        cases hn
        exact ⟨_, _, d, ds, j, z, rfl, rfl, (Dq.ex (Dq.ex (.lst s1 d1) a3.gx) a3.sub).dp, (Dq.ex hy a3.sub).dp, h1, h2, h3, h4, h5, q _ _ G3 H3 rfl (.int _) (a2.trans a3)⟩
end
end Ly


set_option Elab.async false
set_option linter.all false
set_option maxRecDepth 100000
set_option maxHeartbeats 2000000
namespace Ly
open PySem PySem.Spec PyProof.Rows L2 Evl

/-! ### what a def returns, what it promises -/
inductive Rv where
  | dat (d : PyData)
  | own (xs : List PyData)
def RvOk (H0 G H : Hp) : Rv → V → Prop
  | .dat d, v => Dq G v d
  | .own xs, v => ∃ p vs, v = .ref p ∧ H0 p = none ∧ G p = none ∧ H p = some (.lst vs) ∧ DqAll G vs xs
/-- a def's promise over data: arguments, precondition, result by an index -/
def spI {ι : Type} (K : PySem.W.Frag) (args : ι → List PyData) (pre : ι → Prop) (res : ι → Rv → Prop) : Sp := fun vs H Q _ =>
  ∃ (i : ι) (G : Hp), Ex G H ∧ DqAll G vs (args i) ∧ pre i ∧ ∀ r v G2 H2, res i r → RvOk H G2 H2 r v → Adv none G H G2 H2 → Q v H2
/-- the same of a def that draws: its first argument is the tape -/
def spT {ι : Type} (K : PySem.W.Frag) (args : ι → List PyData) (pre : ι → Prop) (res : ι → Rv → Prop) : Sp := fun vs H Q _ =>
  ∃ (i : ι) (G : Hp) (t : Addr × Addr × List Int) (ws : List V), vs = .ref t.1 :: ws ∧ Ex G H ∧ TapeH t H ∧ TapeG K t G ∧ DqAll G ws (args i) ∧ pre i ∧ ∀ r v G2 H2, res i r → RvOk H G2 H2 r v → Adv (some t) G H G2 H2 → Q v H2
/-- a def of the top, told -/
structure Df (P : Program) (w : World) (K : PySem.W.Frag) (mg : Str → Option Value) (base : Heap) (k : Nat) (name : Str) (ps : List Str) (sp : Sp) : Prop where
  ex : ∃ (f : Addr) (fd : FuncData), FnOk P w K mg base CX0 k f fd ps sp ∧ mg name = some (.ref f) ∧ PySem.W.keepIn K (.ref f) = true ∧ Binds K fd ps []
/-- a def of the top, as it stands there -/
structure Dt (K : PySem.W.Frag) (mg : Str → Option Value) (name : Str) (st : Stmt) (ps : List Str) : Prop where
  ex : ∃ (f : Addr) (fd : FuncData), Fun K name name st f fd ∧ mg name = some (.ref f) ∧ Binds K fd ps []

section
variable {X : Cx} {tp : TPar} {Γ : List Sl} {e a b c : Expr} {es : List Expr} {P P' R : PyData → Prop} {pos apos p2 : Pos} {K : PySem.W.Frag}
theorem e_call {ι : Type} {args : ι → List PyData} {pre : ι → Prop} {res : ι → Rv → Prop} {k : Nat} {x : Str} {ps : List Str} (D : Df X.prog X.w X.K X.mg X.base k x ps (spI X.K args pre res)) (i : ι) (hr : Room k X.A) (ha : Ad X tp Γ (e :: es) (args i)) (hp : pre i)
    (h : ∀ r, res i r → ∃ d, r = .dat d ∧ R d) (hg : Gl X x := by rfl) (hdb : (x == ("__debug__" : Str)) = false := by decide) (he : starEach (e :: es) X.env = (false, eval e X.env) :: starEach es X.env := by rfl) (hpl : (backTo pos (starEach es X.env)).any (·.1) = false := by rfl) :
    E X tp Γ (.Call (.Name x p2) (e :: es) [] pos) R := by
  obtain ⟨f, fd, F, hm, hk, hb⟩ := D.ex
  exact e_of (pe_call F hr hg hm hk hb .nil pass0 pa_w hdb he hpl) fun B σ G H hv Q q => ha B σ G H hv _ fun vs G2 H2 hd a => by
    rw [List.append_nil]
    refine ⟨i, G2, a.sub, hd, hp, fun r v G3 H3 hr ok a3 => ?_⟩
    obtain ⟨d, rfl, hR⟩ := h r hr
    exact q v d G3 H3 hR ok (a.trans a3.any)
theorem o_call {ι : Type} {args : ι → List PyData} {pre : ι → Prop} {res : ι → Rv → Prop} {R : List PyData → Prop} {k : Nat} {x : Str} {ps : List Str} (D : Df X.prog X.w X.K X.mg X.base k x ps (spI X.K args pre res)) (i : ι) (hr : Room k X.A) (ha : Ad X tp Γ (e :: es) (args i)) (hp : pre i)
    (h : ∀ r, res i r → ∃ xs, r = .own xs ∧ R xs) (hg : Gl X x := by rfl) (hdb : (x == ("__debug__" : Str)) = false := by decide) (he : starEach (e :: es) X.env = (false, eval e X.env) :: starEach es X.env := by rfl) (hpl : (backTo pos (starEach es X.env)).any (·.1) = false := by rfl) :
    O X tp Γ (.Call (.Name x p2) (e :: es) [] pos) R := by
  obtain ⟨f, fd, F, hm, hk, hb⟩ := D.ex
  exact fun B σ G H hv Q q => we_of (pe_call F hr hg hm hk hb .nil pass0 pa_w hdb he hpl) (ha B σ G H hv _ fun vs G2 H2 hd a => by
    rw [List.append_nil]
    refine ⟨i, G2, a.sub, hd, hp, fun r v G3 H3 hr ok a3 => ?_⟩
    obtain ⟨xs, rfl, hR⟩ := h r hr
    obtain ⟨p, vs, rfl, n, g, hh, hd'⟩ := ok
    exact q p vs xs G3 H3 hR (a.dom p n) g hh hd' (a.trans a3.any))
/-- a call that draws: the tape stands in slot j -/
theorem e_callT {ι : Type} {args : ι → List PyData} {pre : ι → Prop} {res : ι → Rv → Prop} {k : Nat} {x y : Str} {ps : List Str} {p3 : Pos} (D : Df X.prog X.w X.K X.mg X.base k x ps (spT X.K args pre res)) (j : Nat) (i : ι) (hr : Room k X.A) (hj : Γ[j]? = some .tape) (ha : Ad X tp Γ es (args i)) (hp : pre i)
    (h : ∀ r, res i r → ∃ d, r = .dat d ∧ R d) (hN : X.N[j]? = some y := by rfl) (hv : Vis X.env.scope y := by first | exact Or.inl rfl | exact Or.inr (Or.inl rfl) | exact Or.inr (Or.inr rfl)) (hd : (y == ("__debug__" : Str)) = false := by decide) (hcd : (y == ("__classdict__" : Str)) = false := by decide)
    (hg : Gl X x := by rfl) (hdb : (x == ("__debug__" : Str)) = false := by decide) (he : starEach (.Name y p3 :: es) X.env = (false, eval (.Name y p3) X.env) :: starEach es X.env := by rfl) (hpl : (backTo pos (starEach es X.env)).any (·.1) = false := by rfl) :
    E X tp Γ (.Call (.Name x p2) (.Name y p3 :: es) [] pos) R := by
  obtain ⟨f, fd, F, hm, hk, hb⟩ := D.ex
  refine e_of (pe_call F hr hg hm hk hb .nil pass0 (pa_cons (pe_var hN hv hd hcd) pa_w he) hdb he hpl) fun B σ G H hv Q q => ?_
  obtain ⟨t, e1, e2⟩ := hv.sl j _ hj
  subst e1
  refine ⟨.ref t.1, e2, ha B σ G H hv _ fun vs G2 H2 hd a => ?_⟩
  obtain ⟨th, tg, _⟩ := (hv.adv' a).tape t rfl
  refine ⟨i, G2, t, vs, by rw [List.append_nil], a.sub, th, tg, hd, hp, fun r v G3 H3 hr ok a3 => ?_⟩
  obtain ⟨d, rfl, hR⟩ := h r hr
  exact q v d G3 H3 hR ok (a.trans a3)
end

/-! ### statements -/
structure Out where
  nx : List Sl → Prop
  rt : Rv → Prop
  bk : List Sl → Prop := fun _ => False
  ct : List Sl → Prop := fun _ => False
structure Conn (X : Cx) (tp : TPar) (B : Bs) (Z : Out) (D : Ends) : Prop where
  nx : ∀ Γ σ G H, Z.nx Γ → Hv X.K B tp Γ σ G H → D.nx σ H
  rt : ∀ r v G H, Z.rt r → RvOk B.H0 G H r v → Adv tp B.G0 B.H0 G H → D.rt v H
  bk : ∀ Γ σ G H, Z.bk Γ → Hv X.K B tp Γ σ G H → D.bk σ H
  ct : ∀ Γ σ G H, Z.ct Γ → Hv X.K B tp Γ σ G H → D.ct σ H
def S (X : Cx) (tp : TPar) (Γ : List Sl) (sts : List Stmt) (Z : Out) : Prop := ∀ (B : Bs) (σ : L2.St) (G H : Hp) (D : Ends), Hv X.K B tp Γ σ G H → Conn X tp B Z D → wSs X sts D σ H
def S1 (X : Cx) (tp : TPar) (Γ : List Sl) (st : Stmt) (Z : Out) : Prop := ∀ (B : Bs) (σ : L2.St) (G H : Hp) (D : Ends), Hv X.K B tp Γ σ G H → Conn X tp B Z D → wS X st D σ H
section
variable {X : Cx} {tp : TPar} {Γ : List Sl} {e a b c : Expr} {es : List Expr} {P P' R : PyData → Prop} {pos apos p2 p3 : Pos} {Z : Out} {st : Stmt} {rest : List Stmt}
theorem s1_of {t : TS} (h : PS X st t) (k : ∀ (B : Bs) (σ : L2.St) (G H : Hp) (D : Ends), Hv X.K B tp Γ σ G H → Conn X tp B Z D → t D σ H) : S1 X tp Γ st Z := fun B σ G H D hv cn => ws_of h (k B σ G H D hv cn)
theorem s_nil (h : Z.nx Γ) : S X tp Γ [] Z := fun B σ G H D hv cn => wss_of pss_nil (cn.nx Γ σ G H h hv)
theorem s_cons (h : S1 X tp Γ st { Z with nx := fun Γ' => S X tp Γ' rest Z }) : S X tp Γ (st :: rest) Z := fun B σ G H D hv cn =>
  wss_of (pss_cons ps_w pss_w) (h B σ G H { D with nx := wSs X rest D } hv ⟨fun Γ' σ' G' H' hs hv' => hs B σ' G' H' D hv' cn, cn.rt, cn.bk, cn.ct⟩)
/-- the last statement -/
theorem s_one (h : S1 X tp Γ st Z) : S X tp Γ [st] Z := fun B σ G H D hv cn => wss_of (pss_one ps_w) (h B σ G H D hv cn)
/-- a list of this frame is seen from now on -/
theorem s_freeze (i : Nat) {xs : List PyData} (hi : Γ[i]? = some (.own xs)) (h : S X tp (Γ.set i (.dat (.list xs))) rest Z) : S X tp Γ rest Z := fun B σ G H D hv cn => by
  obtain ⟨G', _, hv'⟩ := hv.freeze hi
  exact h B σ G' H D hv' cn
theorem conn_mono {B : Bs} {G1 : Hp} {Z : Out} {D : Ends} (hm : Ex B.Gm G1) (cn : Conn X tp B Z D) : Conn X tp { B with Gm := G1 } Z D :=
  ⟨fun Γ σ G H h hv => cn.nx Γ σ G H h ⟨hm.trans hv.mn, hv.adv, hv.tape, hv.sl, hv.len, hv.ap⟩, fun r v G H h ok a => cn.rt r v G H h ok a, fun Γ σ G H h hv => cn.bk Γ σ G H h ⟨hm.trans hv.mn, hv.adv, hv.tape, hv.sl, hv.len, hv.ap⟩, fun Γ σ G H h hv => cn.ct Γ σ G H h ⟨hm.trans hv.mn, hv.adv, hv.tape, hv.sl, hv.len, hv.ap⟩⟩
/-! assignments -/
theorem s_asg (i : Nat) {x : Str} (h : E X tp Γ e P) (k : ∀ d, P d → Z.nx (Γ.set i (.dat d))) (hN : X.N.Nodup := by assumption) (hi : X.N[i]? = some x := by rfl) (hx : Loc X.env.scope x := by first | exact .inl rfl | exact .inr rfl)
    (hs : swapsWith e (some (.Name x p2)) pos.line X.env = pure false := by rfl) (hf : X.fn x = true ∨ X.env.scope.names.lookup x = some .local := by first | exact .inl rfl | exact .inr rfl) : S1 X tp Γ (.Assign [.Name x p2] e pos) Z :=
  s1_of (ps_set hN hi hx pe_w hs hf) fun B σ G H D hv cn => h B σ G H hv _ fun v d G2 H2 hp hd a => cn.nx _ _ G2 H2 (k d hp) ((hv.adv' a).setD hd)
theorem s_asgO (i : Nat) {x : Str} {P : List PyData → Prop} (h : O X tp Γ e P) (k : ∀ d, P d → Z.nx (Γ.set i (.own d))) (hN : X.N.Nodup := by assumption) (hi : X.N[i]? = some x := by rfl) (hx : Loc X.env.scope x := by first | exact .inl rfl | exact .inr rfl)
    (hs : swapsWith e (some (.Name x p2)) pos.line X.env = pure false := by rfl) (hf : X.fn x = true ∨ X.env.scope.names.lookup x = some .local := by first | exact .inl rfl | exact .inr rfl) : S1 X tp Γ (.Assign [.Name x p2] e pos) Z :=
  s1_of (ps_set hN hi hx pe_w hs hf) fun B σ G H D hv cn => h B σ G H hv _ fun p vs xs G2 H2 hp hn hg hh hd a =>
    cn.nx _ _ G2 H2 (k xs hp) (hv.setM a hn ⟨p, vs, rfl, hv.adv.dom p hn, hg, hh, hd⟩)
/-- y = x, x a list of this frame: it is y's from now on -/
theorem s_move (i j : Nat) {x y : Str} {xs : List PyData} (hj : Γ[j]? = some (.own xs)) (hij : i ≠ j) (k : Z.nx ((Γ.set j .any).set i (.own xs))) (hN : X.N.Nodup := by assumption) (hi : X.N[i]? = some x := by rfl) (hx : Loc X.env.scope x := by first | exact .inl rfl | exact .inr rfl)
    (hjN : X.N[j]? = some y := by rfl) (hv : Vis X.env.scope y := by first | exact Or.inl rfl | exact Or.inr (Or.inl rfl) | exact Or.inr (Or.inr rfl)) (hd : (y == ("__debug__" : Str)) = false := by decide) (hcd : (y == ("__classdict__" : Str)) = false := by decide)
    (hs : swapsWith (.Name y p3) (some (.Name x p2)) pos.line X.env = pure false := by rfl) (hf : X.fn x = true ∨ X.env.scope.names.lookup x = some .local := by first | exact .inl rfl | exact .inr rfl) : S1 X tp Γ (.Assign [.Name x p2] (.Name y p3) pos) Z :=
  s1_of (ps_set hN hi hx (pe_var hjN hv hd hcd) hs hf) fun B σ G H D hv cn => by
    obtain ⟨p, vs, e1, n0, g0, h0, hd'⟩ := hv.sl j _ hj
    refine ⟨.ref p, e1, cn.nx _ _ G H k ?_⟩
    have hjl : j < Γ.length := (List.getElem?_eq_some_iff.mp hj).1
    have other : ∀ (l : Nat) (k : Sl), l ≠ i → l ≠ j → Γ[l]? = some k → k.mut = true → σ[l]? ≠ some (some (.ref p)) := fun l k n1 n2 ek mk z => hv.ap j l _ k p (Ne.symm n2) hj ek rfl mk e1 z
    refine ⟨hv.mn, hv.adv, hv.tape, fun l k ek => ?_, by rw [List.length_set, List.length_set, List.length_set, hv.len], fun a b ka la q nn e1' e2' m1 m2 s1 => ?_⟩
    · by_cases hl : i = l
      · subst hl
        have hil : i < (Γ.set j .any).length := by
          have := (List.getElem?_eq_some_iff.mp ek).1
          rwa [List.length_set] at this
        rw [List.getElem?_set_self hil] at ek
        cases ek
        refine ⟨p, vs, List.getElem?_set_self ?_, n0, g0, h0, hd'⟩
        rw [← hv.len]
        rwa [List.length_set] at hil
      · rw [List.getElem?_set_ne hl] at ek ⊢
        by_cases hl2 : j = l
        · subst hl2
          rw [List.getElem?_set_self hjl] at ek
          cases ek
          trivial
        · rw [List.getElem?_set_ne hl2] at ek
          exact hv.sl l k ek
    · have look : ∀ (l : Nat) (k : Sl), ((Γ.set j .any).set i (.own xs))[l]? = some k → k.mut = true → l = i ∨ (l ≠ i ∧ l ≠ j ∧ Γ[l]? = some k) := fun l k ek mk => by
        by_cases hl : i = l
        · exact .inl hl.symm
        · rw [List.getElem?_set_ne hl] at ek
          by_cases hl2 : j = l
          · subst hl2
            rw [List.getElem?_set_self hjl] at ek
            cases ek
            cases mk
          · rw [List.getElem?_set_ne hl2] at ek
            exact .inr ⟨Ne.symm hl, Ne.symm hl2, ek⟩
      rcases look a ka e1' m1 with r1 | ⟨r1, r2, r3⟩
      · subst r1
        rcases look b la e2' m2 with t1 | ⟨t1, t2, t3⟩
        · exact absurd t1.symm nn
        · have hil : a < σ.length := by
            rcases Nat.lt_or_ge a σ.length with z | z
            · exact z
            · rw [List.getElem?_eq_none (by rw [List.length_set]; exact z)] at s1
              cases s1
          rw [List.getElem?_set_self hil] at s1
          cases s1
          rw [List.getElem?_set_ne (Ne.symm t1)]
          exact other b la t1 t2 t3 m2
      · rcases look b la e2' m2 with t1 | ⟨t1, t2, t3⟩
        · subst t1
          rw [List.getElem?_set_ne (Ne.symm r1)] at s1
          have hil : b < σ.length := by
            have := (List.getElem?_eq_some_iff.mp e2').1
            rw [List.length_set, List.length_set, hv.len] at this
            exact this
          rw [List.getElem?_set_self hil]
          intro z
          cases z
          exact other a ka r1 r2 r3 m1 s1
        · rw [List.getElem?_set_ne (Ne.symm r1)] at s1
          rw [List.getElem?_set_ne (Ne.symm t1)]
          exact hv.ap a b ka la q nn r3 t3 m1 m2 s1
/-- a, b = e1, e2 -/
theorem s_par (i j : Nat) {x y : Str} {d1 d2 : PyData} {px py pt pt2 : Pos} {kt k2 : Nat} (ha : Ed X tp Γ a d1) (hb : Ed X tp Γ b d2) (k : Z.nx ((Γ.set i (.dat d1)).set j (.dat d2))) (hc : X.calm = true := by rfl) (hN : X.N.Nodup := by assumption) (hi : X.N[i]? = some x := by rfl) (hj : X.N[j]? = some y := by rfl) (hij : i ≠ j := by decide)
    (hx : X.env.scope.names.lookup x = some .local := by rfl) (hy : X.env.scope.names.lookup y = some .local := by rfl) (hs1 : starEach [a, b] X.env = (false, eval a X.env) :: starEach [b] X.env := by rfl) (hs2 : starEach [b] X.env = (false, eval b X.env) :: starEach [] X.env := by rfl)
    (hw : swappedStores [.Tuple [.Name x px, .Name y py] kt pt] (.Tuple [a, b] k2 pt2) X.env = pure (some [x, y]) := by rfl)
    (hs : swapsWithSole [.Tuple [.Name x px, .Name y py] kt pt] (.Tuple [a, b] k2 pt2) pos.line X.env = pure false := by rfl) : S1 X tp Γ (.Assign [.Tuple [.Name x px, .Name y py] kt pt] (.Tuple [a, b] k2 pt2) pos) Z :=
  s1_of (ps_par hc hN hi hj hij hx hy pa_w hw hs) fun B σ G H D hv cn => a_cons ha (a_cons hb a_nil hs2) hs1 B σ G H hv _ fun vs G2 H2 hd a => by
    cases hd with
    | cons h1 h2 =>
      cases h2 with
      | cons h2 h3 =>
        cases h3
        exact ⟨_, _, rfl, cn.nx _ _ G2 H2 k (((hv.adv' a).setD h1).setD h2)⟩
/-- a, b = e, e a tuple of two -/
theorem s_unp (i j : Nat) {x y : Str} {d1 d2 : PyData} {px py pt : Pos} {kt : Nat} (h : Ed X tp Γ e (.tuple [d1, d2])) (k : Z.nx ((Γ.set i (.dat d1)).set j (.dat d2))) (hc : X.calm = true := by rfl) (hN : X.N.Nodup := by assumption) (hi : X.N[i]? = some x := by rfl) (hj : X.N[j]? = some y := by rfl)
    (hx : Loc X.env.scope x := by first | exact .inl rfl | exact .inr rfl) (hy : Loc X.env.scope y := by first | exact .inl rfl | exact .inr rfl) (hf : X.fn x = true ∨ X.env.scope.names.lookup x = some .local := by first | exact .inl rfl | exact .inr rfl) (hf2 : X.fn y = true ∨ X.env.scope.names.lookup y = some .local := by first | exact .inl rfl | exact .inr rfl)
    (hn : (assignEach [.Name x px, .Name y py] X.env).length = 2 := by rfl) (hst : (assignEach [.Name x px, .Name y py] X.env).findIdx? (·.1) = none := by rfl)
    (hs : swapsWithSole [.Tuple [.Name x px, .Name y py] kt pt] e pos.line X.env = pure false := by rfl) (hw : swappedStores [.Tuple [.Name x px, .Name y py] kt pt] e X.env = pure none := by rfl)
    (hg1 : assignEach [.Name x px, .Name y py] X.env = (false, fun v => assign (.Name x px) X.env v) :: assignEach [.Name y py] X.env := by rfl) (hg2 : assignEach [.Name y py] X.env = (false, fun v => assign (.Name y py) X.env v) :: assignEach [] X.env := by rfl) :
    S1 X tp Γ (.Assign [.Tuple [.Name x px, .Name y py] kt pt] e pos) Z :=
  s1_of (ps_asg pe_w (pg_tup hc (pgs_cons (pg_name hN hi hx hf) (pgs_cons (pg_name hN hj hy hf2) pgs_nil)) hn hst) hs hw) fun B σ G H D hv cn => h B σ G H hv _ fun v d G2 H2 hd hx a => by
    subst hd
    cases hx with
    | tup s1 dd =>
      cases dd with
      | cons h1 h2 =>
        cases h2 with
        | cons h2 h3 =>
          cases h3
          exact ⟨_, _, rfl, SqT.of (a.sub _ _ s1), rfl, _, _, rfl, _, _, rfl, rfl, cn.nx _ _ G2 H2 k (((hv.adv' a).setD h1).setD h2)⟩
/-- a, b = e, e a new list of two -/
theorem s_unl (i j : Nat) {x y : Str} {d1 d2 : PyData} {px py pt : Pos} {kt : Nat} (h : Ed X tp Γ e (.list [d1, d2])) (k : Z.nx ((Γ.set i (.dat d1)).set j (.dat d2))) (hc : X.calm = true := by rfl) (hN : X.N.Nodup := by assumption) (hi : X.N[i]? = some x := by rfl) (hj : X.N[j]? = some y := by rfl)
    (hx : Loc X.env.scope x := by first | exact .inl rfl | exact .inr rfl) (hy : Loc X.env.scope y := by first | exact .inl rfl | exact .inr rfl) (hf : X.fn x = true ∨ X.env.scope.names.lookup x = some .local := by first | exact .inl rfl | exact .inr rfl) (hf2 : X.fn y = true ∨ X.env.scope.names.lookup y = some .local := by first | exact .inl rfl | exact .inr rfl)
    (hn : (assignEach [.Name x px, .Name y py] X.env).length = 2 := by rfl) (hst : (assignEach [.Name x px, .Name y py] X.env).findIdx? (·.1) = none := by rfl)
    (hs : swapsWithSole [.Tuple [.Name x px, .Name y py] kt pt] e pos.line X.env = pure false := by rfl) (hw : swappedStores [.Tuple [.Name x px, .Name y py] kt pt] e X.env = pure none := by rfl) :
    S1 X tp Γ (.Assign [.Tuple [.Name x px, .Name y py] kt pt] e pos) Z :=
  s1_of (ps_asg pe_w (pg_unl hc (pgs_cons (pg_name hN hi hx hf) (pgs_cons (pg_name hN hj hy hf2) pgs_nil)) hn hst) hs hw) fun B σ G H D hv cn => h B σ G H hv _ fun v d G2 H2 hd hx a => by
    subst hd
    cases hx with
    | lst s1 dd =>
      cases dd with
      | cons h1 h2 =>
        cases h2 with
        | cons h2 h3 =>
          cases h3
          exact ⟨_, _, rfl, SqL.of (a.sub _ _ s1), rfl, _, _, rfl, _, _, rfl, rfl, cn.nx _ _ G2 H2 k (((hv.adv' a).setD h1).setD h2)⟩
/-! return, if -/
theorem s_ret (h : E X tp Γ e P) (k : ∀ d, P d → Z.rt (.dat d)) : S1 X tp Γ (.Return (some e) pos) Z :=
  s1_of (ps_ret pe_w) fun B σ G H D hv cn => h B σ G H hv _ fun v d G2 H2 hp hd a => cn.rt (.dat d) v G2 H2 (k d hp) hd (hv.adv.trans a)
theorem s_retO {P : List PyData → Prop} (h : O X tp Γ e P) (k : ∀ d, P d → Z.rt (.own d)) : S1 X tp Γ (.Return (some e) pos) Z :=
  s1_of (ps_ret pe_w) fun B σ G H D hv cn => h B σ G H hv _ fun p vs xs G2 H2 hp hn hg hh hd a => cn.rt (.own xs) (.ref p) G2 H2 (k xs hp) ⟨p, vs, rfl, hv.adv.dom p hn, hg, hh, hd⟩ (hv.adv.trans a)
/-- return x, x a list of this frame -/
theorem s_retM (j : Nat) {y : Str} {xs : List PyData} (hj : Γ[j]? = some (.own xs)) (k : Z.rt (.own xs)) (hjN : X.N[j]? = some y := by rfl) (hv : Vis X.env.scope y := by first | exact Or.inl rfl | exact Or.inr (Or.inl rfl) | exact Or.inr (Or.inr rfl)) (hd : (y == ("__debug__" : Str)) = false := by decide) (hcd : (y == ("__classdict__" : Str)) = false := by decide) :
    S1 X tp Γ (.Return (some (.Name y p3)) pos) Z :=
  s1_of (ps_ret (pe_var hjN hv hd hcd)) fun B σ G H D hv cn => by
    obtain ⟨p, vs, e1, n0, g0, h0, hd'⟩ := hv.sl j _ hj
    exact ⟨.ref p, e1, cn.rt (.own xs) (.ref p) G H k ⟨p, vs, rfl, n0, g0, h0, hd'⟩ hv.adv⟩
theorem s_if {P : Bool → Prop} {x y : List Stmt} (h : T X tp Γ c P) (h1 : P true → S X tp Γ x Z) (h0 : P false → S X tp Γ y Z) : S1 X tp Γ (.If c x y pos) Z :=
  s1_of (ps_if pt_w pss_w pss_w) fun B σ G H D hv cn => h B σ G H hv _ fun k G2 H2 hp a => by
    cases k with
    | true =>
      rw [if_pos rfl]
      exact h1 hp B σ G2 H2 D (hv.adv' a) cn
    | false =>
      rw [if_neg Bool.false_ne_true]
      exact h0 hp B σ G2 H2 D (hv.adv' a) cn
/-! loops -/
/-- the iterator J gives the data ds, one after another, as long as what is seen in G1 stands -/
structure DataIt (tp : TPar) (J : It) (ds : List PyData) (G1 : Hp) : Prop where
  go : ∀ i H, Ex G1 H → i < ds.length → J.go i H
  stop : ∀ H, Ex G1 H → J.stop ds.length H
  yld : ∀ i H x H' G, Ex G1 G → Ex G H → i < ds.length → J.yld i H x H' → ∃ d G', ds[i]? = some d ∧ Dq G' x d ∧ Adv tp G H G' H'
/-- what a for, a comprehension walks -/
def I (X : Cx) (tp : TPar) (Γ : List Sl) (tg iter : Expr) (P : List PyData → Prop) : Prop :=
  ∀ (B : Bs) (σ : L2.St) (G H : Hp), Hv X.K B tp Γ σ G H → ∀ R : It → Hp → Prop, (∀ ds J G1 H1, P ds → Adv tp G H G1 H1 → DataIt tp J ds G1 → R J H1) → wI X tg iter σ H R
/-- how a target takes data -/
structure Tg (X : Cx) (tp : TPar) (tg : Expr) (g : TG) (f : PyData → List Sl → List Sl → Prop) (js : List Nat) : Prop where
  pg : PG X tg g
  st : ∀ (B : Bs) (Γ : List Sl) (σ : L2.St) (G H : Hp) (v : V) (d : PyData) (Γ' : List Sl) (Q : L2.St → Hp → Prop), Hv X.K B tp Γ σ G H → Dq G v d → f d Γ Γ' →
    (∀ σ', Hv X.K B tp Γ' σ' G H → (∀ vs, (∀ j ∈ js, j ∈ vs) → wipe σ' vs = wipe σ vs) → Q σ' H) → g v σ H Q
theorem wipe_set (σ : L2.St) (j : Nat) (x : Option V) : ∀ vs : List Nat, j ∈ vs → wipe (σ.set j x) vs = wipe σ vs
  | [], h => nomatch h
  | v :: vs, h => by
    show (wipe (σ.set j x) vs).set v none = (wipe σ vs).set v none
    by_cases hv : j ∈ vs
    · rw [wipe_set σ j x vs hv]
    · have e : j = v := by
        rcases List.mem_cons.mp h with h | h
        · exact h
        · exact absurd h hv
      subst e
      have key : ∀ us : List Nat, j ∉ us → wipe (σ.set j x) us = (wipe σ us).set j x := by
        intro us
        induction us with
        | nil => intro _; rfl
        | cons u us ih =>
          intro hu
          show (wipe (σ.set j x) us).set u none = ((wipe σ us).set u none).set j x
          rw [ih (fun z => hu (List.mem_cons_of_mem _ z)), List.set_comm _ _ (fun z => hu (by rw [z]; exact List.mem_cons_self))]
      rw [key vs hv, List.set_set]
theorem wipe_wipe (σ : L2.St) (ws : List Nat) : ∀ vs : List Nat, (∀ j ∈ vs, j ∈ ws) → wipe (wipe σ vs) ws = wipe σ ws
  | [], _ => rfl
  | v :: vs, h => by
    show wipe ((wipe σ vs).set v none) ws = wipe σ ws
    rw [wipe_set _ _ _ _ (h v List.mem_cons_self), wipe_wipe σ ws vs (fun j hj => h j (List.mem_cons_of_mem _ hj))]
def fN (i : Nat) : PyData → List Sl → List Sl → Prop := fun d Γ Γ' => Γ' = Γ.set i (.dat d)
def fT (i j : Nat) : PyData → List Sl → List Sl → Prop := fun d Γ Γ' => ∃ d1 d2, d = .tuple [d1, d2] ∧ Γ' = (Γ.set i (.dat d1)).set j (.dat d2)
theorem tg_name (i : Nat) {x : Str} (hN : X.N.Nodup := by assumption) (hi : X.N[i]? = some x := by rfl) (hx : Loc X.env.scope x := by first | exact .inl rfl | exact .inr rfl) (hf : X.fn x = true ∨ X.env.scope.names.lookup x = some .local := by first | exact .inl rfl | exact .inr rfl) :
    Tg X tp (.Name x p2) (gName i) (fN i) [i] := ⟨pg_name hN hi hx hf, fun B Γ σ G H v d Γ' Q hv hd hf q => by
      subst hf
      exact q _ (hv.setD hd) fun vs h => wipe_set _ _ _ _ (h i (by simp))⟩
theorem tg_two (i j : Nat) {x y : Str} {px py pt : Pos} {kt : Nat} (hc : X.calm = true := by rfl) (hN : X.N.Nodup := by assumption) (hi : X.N[i]? = some x := by rfl) (hj : X.N[j]? = some y := by rfl)
    (hx : Loc X.env.scope x := by first | exact .inl rfl | exact .inr rfl) (hy : Loc X.env.scope y := by first | exact .inl rfl | exact .inr rfl) (hf : X.fn x = true ∨ X.env.scope.names.lookup x = some .local := by first | exact .inl rfl | exact .inr rfl) (hf2 : X.fn y = true ∨ X.env.scope.names.lookup y = some .local := by first | exact .inl rfl | exact .inr rfl)
    (hn : (assignEach [.Name x px, .Name y py] X.env).length = 2 := by rfl) (hst : (assignEach [.Name x px, .Name y py] X.env).findIdx? (·.1) = none := by rfl) :
    Tg X tp (.Tuple [.Name x px, .Name y py] kt pt) (gTup X.K 2 (gCons (gName i) (gCons (gName j) gNil))) (fT i j) [i, j] :=
  ⟨pg_tup hc (pgs_cons (pg_name hN hi hx hf) (pgs_cons (pg_name hN hj hy hf2) pgs_nil)) hn hst, fun B Γ σ G H v d Γ' Q hv hd hf q => by
    obtain ⟨d1, d2, rfl, rfl⟩ := hf
    cases hd with
    | tup s1 dd =>
      cases dd with
      | cons h1 h2 =>
        cases h2 with
        | cons h2 h3 =>
          cases h3
          exact ⟨_, _, rfl, SqT.of (hv.sub _ _ s1), rfl, _, _, rfl, _, _, rfl, rfl, q _ ((hv.setD h1).setD h2) fun vs h => by rw [wipe_set _ _ _ _ (h j (by simp)), wipe_set _ _ _ _ (h i (by simp))]⟩⟩
theorem s_for {tg iter : Expr} {body : List Stmt} {g : TG} {f : PyData → List Sl → List Sl → Prop} {js : List Nat} {P : List PyData → Prop} (hi : I X tp Γ tg iter P) (ht : Tg X tp tg g f js) (Pv : List PyData → Nat → List Sl → Prop) (h0 : ∀ ds, P ds → Pv ds 0 Γ)
    (hb : ∀ ds, P ds → ∀ i d Γ', ds[i]? = some d → Pv ds i Γ' → ∃ Γ'', f d Γ' Γ'' ∧ S X tp Γ'' body { nx := Pv ds (i + 1), ct := Pv ds (i + 1), bk := Z.nx, rt := Z.rt }) (hd : ∀ ds, P ds → ∀ Γ', Pv ds ds.length Γ' → Z.nx Γ')
    (hp : PassesOwn (model X.prog X.w) X.A X.env X.xe := by exact PassesOwn.never) (hc : X.calm = true := by rfl) (hs : ∀ x, foldedSetIterable iter X.env x = pure x := by intro _; rfl) : S1 X tp Γ (.For tg iter body [] pos) Z :=
  s1_of (ps_for hp hc pi_w ht.pg pss_w hs) fun B σ G H D hv cn => hi B σ G H hv _ fun ds J G1 H1 hP a1 di => by
    have hv1 := hv.adv' a1
    have hvB : Hv X.K { B with Gm := G1 } tp Γ σ G1 H1 := ⟨Ex.refl G1, hv1.adv, hv1.tape, hv1.sl, hv1.len, hv1.ap⟩
    have cnB := conn_mono hv1.mn cn
    refine ⟨fun i m σ H => m = ds.length - i ∧ i ≤ ds.length ∧ ∃ Γ' G', Pv ds i Γ' ∧ Hv X.K { B with Gm := G1 } tp Γ' σ G' H, ⟨ds.length, by simp, Nat.zero_le _, Γ, G1, h0 ds hP, hvB⟩, ?_⟩
    rintro i m σ' H' ⟨rfl, hi, Γ', G', hpv, hv'⟩
    have exH : Ex G1 H' := hv'.mn.trans hv'.sub
    by_cases hlt : i < ds.length
    · refine .inr ⟨di.go i H' exH hlt, fun σ2 H2 => ∃ Γ2 G2, Pv ds (i + 1) Γ2 ∧ Hv X.K { B with Gm := G1 } tp Γ2 σ2 G2 H2, fun σ2 H2 ⟨Γ2, G2, z1, z2⟩ => ⟨ds.length - (i + 1), by omega, rfl, hlt, Γ2, G2, z1, z2⟩, fun x H2 hy => ?_⟩
      obtain ⟨d, G2, ed, hd2, a2⟩ := di.yld i H' x H2 G' hv'.mn hv'.sub hlt hy
      obtain ⟨Γ2, ef, hS⟩ := hb ds hP i d Γ' ed hpv
      refine ht.st { B with Gm := G1 } Γ' σ' G2 H2 x d Γ2 _ (hv'.adv' a2) hd2 ef fun σ3 hv3 _ => ?_
      exact hS { B with Gm := G1 } σ3 G2 H2 _ hv3 ⟨fun Γ4 σ4 G4 H4 z1 z2 => ⟨Γ4, G4, z1, z2⟩, cnB.rt, cnB.nx, fun Γ4 σ4 G4 H4 z1 z2 => ⟨Γ4, G4, z1, z2⟩⟩
    · have e : i = ds.length := by omega
      subst e
      exact .inl ⟨di.stop H' exH, cnB.nx Γ' σ' G' H' (hd ds hP Γ' hpv) hv'⟩
theorem s_while {body : List Stmt} (Wv : Nat → List Sl → Prop) (m0 : Nat) (h0 : Wv m0 Γ)
    (hs : ∀ m Γ', Wv m Γ' → ∃ P : Bool → Prop, T X tp Γ' c P ∧ (P true → S X tp Γ' body { nx := fun Γ'' => ∃ m', m' < m ∧ Wv m' Γ'', ct := fun Γ'' => ∃ m', m' < m ∧ Wv m' Γ'', bk := Z.nx, rt := Z.rt }) ∧ (P false → Z.nx Γ'))
    (hp : PassesOwn (model X.prog X.w) X.A X.env X.xe := by exact PassesOwn.never) : S1 X tp Γ (.While c body [] pos) Z :=
  s1_of (ps_while hp pt_w pss_w) fun B σ G H D hv cn => by
    refine ⟨fun m σ H => ∃ Γ' G', Wv m Γ' ∧ Hv X.K B tp Γ' σ G' H, ⟨m0, Γ, G, h0, hv⟩, ?_⟩
    rintro m σ' H' ⟨Γ', G', hw, hv'⟩
    obtain ⟨P, hT, h1, h2⟩ := hs m Γ' hw
    refine hT B σ' G' H' hv' _ fun k G2 H2 hp a => ?_
    cases k with
    | true =>
      rw [if_pos rfl]
      refine ⟨fun σ2 H2 => ∃ m', m' < m ∧ ∃ Γ2 G2, Wv m' Γ2 ∧ Hv X.K B tp Γ2 σ2 G2 H2, fun σ2 H2 ⟨m', l, z⟩ => ⟨m', l, z⟩, ?_⟩
      exact h1 hp B σ' G2 H2 _ (hv'.adv' a) ⟨fun Γ4 σ4 G4 H4 ⟨m', l, z1⟩ z2 => ⟨m', l, Γ4, G4, z1, z2⟩, cn.rt, cn.nx, fun Γ4 σ4 G4 H4 ⟨m', l, z1⟩ z2 => ⟨m', l, Γ4, G4, z1, z2⟩⟩
    | false =>
      rw [if_neg Bool.false_ne_true]
      exact cn.nx Γ' σ' G2 H2 (h2 hp) (hv'.adv' a)
end
end Ly


set_option Elab.async false
set_option linter.all false
set_option maxRecDepth 100000
set_option maxHeartbeats 2000000
namespace Ly
open PySem PySem.Spec PyProof.Rows L2 Evl
section
variable {X : Cx} {tp : TPar} {Γ : List Sl} {e a b c : Expr} {es : List Expr} {P P' R : PyData → Prop} {pos apos p2 p3 cpos : Pos} {Z : Out} {st : Stmt} {rest : List Stmt}

/-! ### a list of this frame changed by a method -/
theorem own_at {K : PySem.W.Frag} {B : Bs} {σ : L2.St} {G H : Hp} {i : Nat} {xs : List PyData} (hv : Hv K B tp Γ σ G H) (hi : Γ[i]? = some (.own xs)) {p : Addr} (hp : σ[i]? = some (some (.ref p))) : ∃ vs, H p = some (.lst vs) ∧ DqAll G vs xs := by
  obtain ⟨q, vs, e1, _, _, h0, hd⟩ := hv.sl i _ hi
  rw [hp] at e1
  cases e1
  exact ⟨vs, h0, hd⟩
/-- x.m(e): what the method asks and does -/
theorem s_meth1 (i : Nat) {x m : Str} {id : String} {r : V → List V → Hp → VK → Prop} {xs : List PyData} {P : PyData → Prop} (f : PyData → List PyData) (slot : Slot "list" m id) (ty : typeOf (.builtin id) = pure (.type "method_descriptor")) (hm : MtR X id r) (hi : Γ[i]? = some (.own xs)) (h : E X tp Γ e P)
    (hr : ∀ d, P d → ∀ (p : Addr) (vs : List V) (v : V) (G H : Hp), Ex G H → H p = some (.lst vs) → DqAll G vs xs → Dq G v d → ∀ Q : VK, (∀ ws u, DqAll G ws (f d) → Q u (upd H p (.lst ws))) → r (.ref p) [v] H Q)
    (k : ∀ d, P d → Z.nx (Γ.set i (.own (f d)))) (hN : X.N[i]? = some x := by rfl) (hv : Vis X.env.scope x := by first | exact Or.inl rfl | exact Or.inr (Or.inl rfl) | exact Or.inr (Or.inr rfl)) (hd : (x == ("__debug__" : Str)) = false := by decide) (hcd : (x == ("__classdict__" : Str)) = false := by decide)
    (hs : starEach [e] X.env = (false, eval e X.env) :: starEach [] X.env := by rfl) (hbase : attributeBase (.Name x p2) m X.env (eval (.Name x p2) X.env) = eval (.Name x p2) X.env := by rfl) (hline : (apos.endLine == cpos.line) = true := by rfl)
    (hfew : ((backTo cpos (starEach [e] X.env)).all (fun x => !x.1) && (backToKw cpos (keywordEach [] X.env)).all (fun x => x.1.isSome) && decide (([e] : List Expr).length + ([] : List Keyword).length + (if ([] : List Keyword).isEmpty then 0 else 1) < 30)) = true := by rfl)
    (hpl : (backTo cpos (starEach [] X.env)).any (·.1) = false := by rfl) (hsw : swapsWith (.Call (.Attribute (.Name x p2) m apos) [e] [] cpos) none pos.line X.env = pure false := by rfl) :
    S1 X tp Γ (.Expr (.Call (.Attribute (.Name x p2) m apos) [e] [] cpos) pos) Z :=
  s1_of (ps_expr (pe_bm PySem.F.plainAttrs_list slot ty hm (pe_var hN hv hd hcd) (pa_cons pe_w pa_nil hs) hbase hfew hline hs hpl) hsw) fun B σ G H D hv' cn => by
    obtain ⟨p, vs, e1, n0, g0, h0, hd'⟩ := hv'.sl i _ hi
    refine ⟨.ref p, e1, .inl ⟨rfl, vs, SqL.of h0⟩, h B σ G H hv' _ fun v d G2 H2 hp hd2 a2 => ?_⟩
    have hv2 := hv'.adv' a2
    obtain ⟨vs2, h2, dd2⟩ := own_at hv2 hi e1
    exact hr d hp p vs2 v G2 H2 a2.sub h2 dd2 hd2 _ fun ws u hw => cn.nx _ _ _ _ (k d hp) (hv2.wrL hi e1 hw)
theorem s_append (i : Nat) {x : Str} {xs : List PyData} (hi : Γ[i]? = some (.own xs)) (h : E X tp Γ e P) (hz : xs.length < 100000) (k : ∀ d, P d → Z.nx (Γ.set i (.own (xs ++ [d])))) (hN : X.N[i]? = some x := by rfl) (hv : Vis X.env.scope x := by first | exact Or.inl rfl | exact Or.inr (Or.inl rfl) | exact Or.inr (Or.inr rfl)) (hd : (x == ("__debug__" : Str)) = false := by decide) (hcd : (x == ("__classdict__" : Str)) = false := by decide)
    (hs : starEach [e] X.env = (false, eval e X.env) :: starEach [] X.env := by rfl) (hbase : attributeBase (.Name x p2) "append" X.env (eval (.Name x p2) X.env) = eval (.Name x p2) X.env := by rfl) (hline : (apos.endLine == cpos.line) = true := by rfl)
    (hfew : ((backTo cpos (starEach [e] X.env)).all (fun x => !x.1) && (backToKw cpos (keywordEach [] X.env)).all (fun x => x.1.isSome) && decide (([e] : List Expr).length + ([] : List Keyword).length + (if ([] : List Keyword).isEmpty then 0 else 1) < 30)) = true := by rfl)
    (hpl : (backTo cpos (starEach [] X.env)).any (·.1) = false := by rfl) (hsw : swapsWith (.Call (.Attribute (.Name x p2) "append" apos) [e] [] cpos) none pos.line X.env = pure false := by rfl) :
    S1 X tp Γ (.Expr (.Call (.Attribute (.Name x p2) "append" apos) [e] [] cpos) pos) Z :=
  s_meth1 i (fun d => xs ++ [d]) PySem.F.slot_list_append PySem.F.type_list_append mt_append hi h (fun d _ p vs v G H _ h0 hd hx Q q => ⟨p, vs, v, rfl, rfl, h0, by rw [hd.length]; exact Nat.lt_of_lt_of_le hz (by decide), q _ _ (hd.append (.one hx))⟩) k hN hv hd hcd hs hbase hline hfew hpl hsw
/-- x.extend(a new list) -/
theorem s_extend (i : Nat) {x : Str} {xs : List PyData} {P : List PyData → Prop} (hi : Γ[i]? = some (.own xs)) (h : O X tp Γ e P) (hz : ∀ ys, P ys → xs.length + ys.length ≤ 1000000) (k : ∀ d, P d → Z.nx (Γ.set i (.own (xs ++ d)))) (hN : X.N[i]? = some x := by rfl) (hv : Vis X.env.scope x := by first | exact Or.inl rfl | exact Or.inr (Or.inl rfl) | exact Or.inr (Or.inr rfl)) (hd : (x == ("__debug__" : Str)) = false := by decide) (hcd : (x == ("__classdict__" : Str)) = false := by decide)
    (hs : starEach [e] X.env = (false, eval e X.env) :: starEach [] X.env := by rfl) (hbase : attributeBase (.Name x p2) "extend" X.env (eval (.Name x p2) X.env) = eval (.Name x p2) X.env := by rfl) (hline : (apos.endLine == cpos.line) = true := by rfl)
    (hfew : ((backTo cpos (starEach [e] X.env)).all (fun x => !x.1) && (backToKw cpos (keywordEach [] X.env)).all (fun x => x.1.isSome) && decide (([e] : List Expr).length + ([] : List Keyword).length + (if ([] : List Keyword).isEmpty then 0 else 1) < 30)) = true := by rfl)
    (hpl : (backTo cpos (starEach [] X.env)).any (·.1) = false := by rfl) (hsw : swapsWith (.Call (.Attribute (.Name x p2) "extend" apos) [e] [] cpos) none pos.line X.env = pure false := by rfl) :
    S1 X tp Γ (.Expr (.Call (.Attribute (.Name x p2) "extend" apos) [e] [] cpos) pos) Z :=
  s1_of (ps_expr (pe_bm PySem.F.plainAttrs_list PySem.F.slot_list_extend PySem.F.type_list_extend mt_extend (pe_var hN hv hd hcd) (pa_cons pe_w pa_nil hs) hbase hfew hline hs hpl) hsw) fun B σ G H D hv' cn => by
    obtain ⟨p, vs, e1, n0, g0, h0, hd'⟩ := hv'.sl i _ hi
    refine ⟨.ref p, e1, .inl ⟨rfl, vs, SqL.of h0⟩, h B σ G H hv' _ fun q ws ys G2 H2 hp hn hg hh hd2 a2 => ?_⟩
    have hv2 := hv'.adv' a2
    obtain ⟨vs2, h2, dd2⟩ := own_at hv2 hi e1
    exact ⟨p, q, vs2, ws, rfl, rfl, h2, hh, by rw [dd2.length, hd2.length]; exact Nat.le_trans (hz ys hp) (by decide), cn.nx _ _ _ _ (k ys hp) (hv2.wrL hi e1 (dd2.append hd2))⟩
/-- x.pop() -/
theorem s_pop (i : Nat) {x : Str} {xs : List PyData} (hi : Γ[i]? = some (.own xs)) (hne : xs ≠ []) (k : Z.nx (Γ.set i (.own xs.dropLast))) (hN : X.N[i]? = some x := by rfl) (hv : Vis X.env.scope x := by first | exact Or.inl rfl | exact Or.inr (Or.inl rfl) | exact Or.inr (Or.inr rfl)) (hd : (x == ("__debug__" : Str)) = false := by decide) (hcd : (x == ("__classdict__" : Str)) = false := by decide)
    (hbase : attributeBase (.Name x p2) "pop" X.env (eval (.Name x p2) X.env) = eval (.Name x p2) X.env := by rfl) (hline : (apos.endLine == cpos.line) = true := by rfl) (hsw : swapsWith (.Call (.Attribute (.Name x p2) "pop" apos) [] [] cpos) none pos.line X.env = pure false := by rfl) :
    S1 X tp Γ (.Expr (.Call (.Attribute (.Name x p2) "pop" apos) [] [] cpos) pos) Z :=
  s1_of (ps_expr (pe_bm0 PySem.F.plainAttrs_list PySem.F.slot_list_pop PySem.F.type_list_pop mt_pop (pe_var hN hv hd hcd) hbase hline) hsw) fun B σ G H D hv' cn => by
    obtain ⟨p, vs, e1, n0, g0, h0, hd'⟩ := hv'.sl i _ hi
    have hl := hd'.length
    have hx : 0 < xs.length := List.length_pos_iff.mpr hne
    refine ⟨.ref p, e1, .inl ⟨rfl, vs, SqL.of h0⟩, p, vs, _, rfl, rfl, h0, List.getElem?_eq_getElem (show vs.length - 1 < vs.length by omega), cn.nx _ _ _ _ k (hv'.wrL hi e1 ?_)⟩
    rw [List.dropLast_eq_take, List.dropLast_eq_take, hl]
    exact hd'.take _
/-- x.reverse() -/
theorem s_reverse (i : Nat) {x : Str} {xs : List PyData} (hi : Γ[i]? = some (.own xs)) (k : Z.nx (Γ.set i (.own xs.reverse))) (hN : X.N[i]? = some x := by rfl) (hv : Vis X.env.scope x := by first | exact Or.inl rfl | exact Or.inr (Or.inl rfl) | exact Or.inr (Or.inr rfl)) (hd : (x == ("__debug__" : Str)) = false := by decide) (hcd : (x == ("__classdict__" : Str)) = false := by decide)
    (hbase : attributeBase (.Name x p2) "reverse" X.env (eval (.Name x p2) X.env) = eval (.Name x p2) X.env := by rfl) (hline : (apos.endLine == cpos.line) = true := by rfl) (hsw : swapsWith (.Call (.Attribute (.Name x p2) "reverse" apos) [] [] cpos) none pos.line X.env = pure false := by rfl) :
    S1 X tp Γ (.Expr (.Call (.Attribute (.Name x p2) "reverse" apos) [] [] cpos) pos) Z :=
  s1_of (ps_expr (pe_bm0 PySem.F.plainAttrs_list PySem.F.slot_list_reverse PySem.F.type_list_reverse mt_reverse (pe_var hN hv hd hcd) hbase hline) hsw) fun B σ G H D hv' cn => by
    obtain ⟨p, vs, e1, n0, g0, h0, hd'⟩ := hv'.sl i _ hi
    exact ⟨.ref p, e1, .inl ⟨rfl, vs, SqL.of h0⟩, p, vs, rfl, rfl, h0, cn.nx _ _ _ _ k (hv'.wrL hi e1 hd'.reverse)⟩
/-- x.insert(a, e) -/
theorem s_insert (i : Nat) {x : Str} {xs : List PyData} {P P' : PyData → Prop} (hi : Γ[i]? = some (.own xs)) (ha : E X tp Γ a P) (h : E X tp Γ e P') (hz : xs.length < 100000) (hP : ∀ d, P d → ∃ n : Nat, d = .int n ∧ n ≤ 100000)
    (k : ∀ (n : Nat) d, P (.int n) → P' d → Z.nx (Γ.set i (.own (xs.take n ++ [d] ++ xs.drop n)))) (hN : X.N[i]? = some x := by rfl) (hv : Vis X.env.scope x := by first | exact Or.inl rfl | exact Or.inr (Or.inl rfl) | exact Or.inr (Or.inr rfl)) (hd : (x == ("__debug__" : Str)) = false := by decide) (hcd : (x == ("__classdict__" : Str)) = false := by decide)
    (hs : starEach [a, e] X.env = (false, eval a X.env) :: starEach [e] X.env := by rfl) (hs2 : starEach [e] X.env = (false, eval e X.env) :: starEach [] X.env := by rfl) (hbase : attributeBase (.Name x p2) "insert" X.env (eval (.Name x p2) X.env) = eval (.Name x p2) X.env := by rfl) (hline : (apos.endLine == cpos.line) = true := by rfl)
    (hfew : ((backTo cpos (starEach [a, e] X.env)).all (fun x => !x.1) && (backToKw cpos (keywordEach [] X.env)).all (fun x => x.1.isSome) && decide (([a, e] : List Expr).length + ([] : List Keyword).length + (if ([] : List Keyword).isEmpty then 0 else 1) < 30)) = true := by rfl)
    (hpl : (backTo cpos (starEach [e] X.env)).any (·.1) = false := by rfl) (hsw : swapsWith (.Call (.Attribute (.Name x p2) "insert" apos) [a, e] [] cpos) none pos.line X.env = pure false := by rfl) :
    S1 X tp Γ (.Expr (.Call (.Attribute (.Name x p2) "insert" apos) [a, e] [] cpos) pos) Z :=
  s1_of (ps_expr (pe_bm PySem.F.plainAttrs_list PySem.F.slot_list_insert PySem.F.type_list_insert mt_insert (pe_var hN hv hd hcd) (pa_cons pe_w (pa_cons pe_w pa_nil hs2) hs) hbase hfew hline hs hpl) hsw) fun B σ G H D hv' cn => by
    obtain ⟨p, vs, e1, n0, g0, h0, hd'⟩ := hv'.sl i _ hi
    refine ⟨.ref p, e1, .inl ⟨rfl, vs, SqL.of h0⟩, ha B σ G H hv' _ fun v d G1 H1 hp hx a1 => h B σ G1 H1 (hv'.adv' a1) _ fun u d2 G2 H2 hp2 hy a2 => ?_⟩
    have hv2 := (hv'.adv' a1).adv' a2
    obtain ⟨vs2, h2, dd2⟩ := own_at hv2 hi e1
    obtain ⟨n, rfl, hn⟩ := hP d hp
    cases hx
    refine ⟨p, vs2, (n : Int), u, rfl, rfl, h2, by rw [dd2.length]; exact Nat.lt_of_lt_of_le hz (by decide), by omega, by omega, cn.nx _ _ _ _ (k n d2 hp hp2) (hv2.wrL hi e1 ?_)⟩
    exact ((dd2.take n).append (.one hy)).append (dd2.drop n)

/-! ### what is walked -/
variable {tg iter : Expr} {Pl : List PyData → Prop}
theorem i_of {t : TI} (h : PI X tg iter t) (k : ∀ (B : Bs) (σ : L2.St) (G H : Hp), Hv X.K B tp Γ σ G H → ∀ R : It → Hp → Prop, (∀ ds J G1 H1, Pl ds → Adv tp G H G1 H1 → DataIt tp J ds G1 → R J H1) → t σ H R) : I X tp Γ tg iter Pl :=
  fun B σ G H hv R r => wi_of h (k B σ G H hv R r)
theorem it_list {K : PySem.W.Frag} {G : Hp} {p : Addr} {vs : List V} {ds : List PyData} (hs : G p = some (.lst vs)) (hd : DqAll G vs ds) : DataIt tp (Itl K p) ds G where
  go := fun i H ex hi => ⟨vs, vs[i]'(by rw [hd.length]; exact hi), SqL.of (ex _ _ hs), List.getElem?_eq_getElem _⟩
  stop := fun H ex => ⟨vs, SqL.of (ex _ _ hs), by rw [hd.length] <;> exact Nat.le_refl _⟩
  yld := fun i H x H' G' ex1 ex2 hi ⟨e, y⟩ => by
    subst e
    obtain ⟨d, e1, e2⟩ := hd.getV (y vs (SqL.of ((ex1.trans ex2) _ _ hs)))
    exact ⟨d, G', e1, Dq.ex e2 ex1, Adv.refl ex2⟩
theorem it_tup {K : PySem.W.Frag} {G : Hp} {p : Addr} {vs : List V} {ds : List PyData} (hs : G p = some (.tup vs)) (hd : DqAll G vs ds) : DataIt tp (Itt K p) ds G where
  go := fun i H ex hi => ⟨vs, vs[i]'(by rw [hd.length]; exact hi), SqT.of (ex _ _ hs), List.getElem?_eq_getElem _⟩
  stop := fun H ex => ⟨vs, SqT.of (ex _ _ hs), by rw [hd.length] <;> exact Nat.le_refl _⟩
  yld := fun i H x H' G' ex1 ex2 hi ⟨e, y⟩ => by
    subst e
    obtain ⟨d, e1, e2⟩ := hd.getV (y vs (SqT.of ((ex1.trans ex2) _ _ hs)))
    exact ⟨d, G', e1, Dq.ex e2 ex1, Adv.refl ex2⟩
theorem i_list (h : E X tp Γ iter (fun d => ∃ ds, d = .list ds ∧ Pl ds)) : I X tp Γ tg iter Pl :=
  i_of (pi_list pe_w) fun B σ G H hv R r => h B σ G H hv _ fun v d G2 H2 ⟨ds, e, hp⟩ hd a => by
    subst e
    cases hd with
    | lst hs hd => exact ⟨_, rfl, ⟨_, SqL.of (a.sub _ _ hs)⟩, r ds _ G2 H2 hp a (it_list hs hd)⟩
theorem i_tup (h : E X tp Γ iter (fun d => ∃ ds, d = .tuple ds ∧ Pl ds)) : I X tp Γ tg iter Pl :=
  i_of (pi_tup pe_w) fun B σ G H hv R r => h B σ G H hv _ fun v d G2 H2 ⟨ds, e, hp⟩ hd a => by
    subst e
    cases hd with
    | tup hs hd => exact ⟨_, rfl, ⟨_, SqT.of (a.sub _ _ hs)⟩, r ds _ G2 H2 hp a (it_tup hs hd)⟩
/-- the ints lo, lo + 1, .. -/
def rangeD (lo : Int) (n : Nat) : List PyData := (List.range n).map fun (i : Nat) => .int (lo + (i : Int))
theorem rangeD_len (lo : Int) (n : Nat) : (rangeD lo n).length = n := by unfold rangeD; rw [List.length_map, List.length_range]
theorem rangeD_get {lo : Int} {n i : Nat} {d : PyData} (h : (rangeD lo n)[i]? = some d) : i < n ∧ d = .int (lo + (i : Int)) := by
  have hl := (List.getElem?_eq_some_iff.mp h).1
  rw [rangeD_len] at hl
  unfold rangeD at h
  rw [List.getElem?_map, List.getElem?_range hl] at h
  exact ⟨hl, (Option.some.inj h).symm⟩
theorem it_rng {G : Hp} {lo : Int} {n : Nat} : DataIt tp (Itr lo n) (rangeD lo n) G where
  go := fun i H ex hi => by rw [rangeD_len] at hi; exact hi
  stop := fun H ex => by rw [rangeD_len]; exact Nat.le_refl _
  yld := fun i H x H' G' ex1 ex2 hi ⟨e, y⟩ => by
    subst e y
    rw [rangeD_len] at hi
    refine ⟨.int (lo + (i : Int)), G', ?_, .int _, Adv.refl ex2⟩
    unfold rangeD
    rw [List.getElem?_map, List.getElem?_range hi]
    rfl
theorem i_rng1 {P : PyData → Prop} (hm : X.mg "range" = none) (h : E X tp Γ a P) (hP : ∀ d, P d → ∃ j : Int, d = .int j ∧ -1000000 ≤ j ∧ j < 1000000) (hg : Gl X "range" := by rfl) (hs : starEach [a] X.env = [(false, eval a X.env)] := by rfl) :
    I X tp Γ tg (.Call (.Name "range" p2) [a] [] pos) (fun ds => ∃ j : Int, P (.int j) ∧ ds = rangeD 0 j.toNat) :=
  i_of (pi_range1 hg hm (pa_cons pe_w pa_nil hs) hs) fun B σ G H hv R r => h B σ G H hv _ fun v d G2 H2 hp hd a => by
    obtain ⟨j, rfl, b1, b2⟩ := hP d hp
    cases hd
    exact ⟨j, rfl, by omega, by omega, r _ _ G2 H2 ⟨j, hp, rfl⟩ a it_rng⟩
theorem i_rng2 {i j : Int} (hm : X.mg "range" = none) (ha : Ed X tp Γ a (.int i)) (hb : Ed X tp Γ b (.int j)) (hB : -1000000 ≤ i ∧ i < 1000000 ∧ -1000000 ≤ j ∧ j < 1000000) (hg : Gl X "range" := by rfl)
    (hs : starEach [a, b] X.env = [(false, eval a X.env), (false, eval b X.env)] := by rfl) (hs2 : starEach [b] X.env = [(false, eval b X.env)] := by rfl) : I X tp Γ tg (.Call (.Name "range" p2) [a, b] [] pos) (fun ds => ds = rangeD i (j - i).toNat) :=
  i_of (pi_range2 hg hm (pa_cons pe_w (pa_cons pe_w pa_nil hs2) (by rw [hs, hs2])) hs hs2) fun B σ G H hv R r => ha B σ G H hv _ fun v d G2 H2 e1 hd a1 => hb B σ G2 H2 (hv.adv' a1) _ fun u d2 G3 H3 e2 hd2 a2 => by
    subst e1 e2
    cases hd
    cases hd2
    exact ⟨i, j, rfl, ⟨by omega, by omega, by omega, by omega⟩, r _ _ G3 H3 rfl (a1.trans a2) it_rng⟩
/-- the signs of a text -/
def signsD (z : Str) : List PyData := z.cps.toList.map fun c => .str ⟨#[c]⟩
theorem it_str {G : Hp} {z : Str} : DataIt tp (Its z) (signsD z) G where
  go := fun i H ex hi => by
    unfold signsD at hi
    rw [List.length_map, Array.length_toList] at hi
    exact hi
  stop := fun H ex => by
    unfold signsD
    rw [List.length_map, Array.length_toList]
    exact Nat.le_refl _
  yld := fun i H x H' G' ex1 ex2 hi ⟨e, c, hc, y⟩ => by
    subst e y
    refine ⟨.str ⟨#[c]⟩, G', ?_, .str _, Adv.refl ex2⟩
    unfold signsD
    rw [List.getElem?_map, Array.getElem?_toList, hc]
    rfl
theorem i_str {z : Str} (h : Ed X tp Γ iter (.str z)) : I X tp Γ tg iter (fun ds => ds = signsD z) :=
  i_of (pi_str pe_w) fun B σ G H hv R r => h B σ G H hv _ fun v d G2 H2 e hd a => by
    subst e
    cases hd
    exact ⟨z, rfl, r _ _ G2 H2 rfl a it_str⟩

/-! ### comprehensions -/
def wipeG (Γ : List Sl) : List Nat → List Sl
  | [] => Γ
  | v :: vs => (wipeG Γ vs).set v .any
theorem Hv.wiped {K : PySem.W.Frag} {B : Bs} {σ : L2.St} {G H : Hp} (hv : Hv K B tp Γ σ G H) : ∀ vs : List Nat, Hv K B tp (wipeG Γ vs) (wipe σ vs) G H
  | [] => hv
  | v :: vs => (hv.wiped vs).setA
/-- one more slot behind -/
theorem Hv.push {K : PySem.W.Frag} {B : Bs} {σ : L2.St} {G H : Hp} {D : Addr} (hv : Hv K B tp Γ σ G H) (hD : H D = none) : Hv K B tp (Γ ++ [.own []]) (σ ++ [some (.ref D)]) G (upd H D (.lst [])) := by
  have a : Adv tp G H G (upd H D (.lst [])) := Adv.hid hv.sub hD
  have hv2 := hv.adv' a
  refine ⟨hv2.mn, hv2.adv, hv2.tape, fun i k e => ?_, by rw [List.length_append, List.length_append, hv.len] <;> rfl, fun i j k l p n e1 e2 m1 m2 s1 => ?_⟩
  · rcases Nat.lt_or_ge i Γ.length with hi | hi
    · rw [List.getElem?_append_left hi] at e
      rw [List.getElem?_append_left (hv.len ▸ hi)]
      exact hv2.sl i k e
    · rw [List.getElem?_append_right hi] at e
      rw [List.getElem?_append_right (hv.len ▸ hi), ← hv.len]
      cases q : i - Γ.length with
      | zero =>
        rw [q] at e
        cases e
        exact ⟨D, [], rfl, hv.adv.dom D hD, fresh_back hv.sub hD, upd_same, .nil⟩
      | succ m => rw [q] at e; cases e
  · have old : ∀ (i : Nat) (k : Sl) (p : Addr), Γ[i]? = some k → k.mut = true → σ[i]? = some (some (.ref p)) → p ≠ D := fun i k p e m s z => by
      obtain ⟨p', o, z1, z2⟩ := hv.mut_at e m
      rw [s] at z1
      cases z1
      rw [z, hD] at z2
      cases z2
    have last : ∀ (i : Nat) (k : Sl), ¬ i < Γ.length → (Γ ++ [Sl.own []])[i]? = some k → i = Γ.length := fun i k h e => by
      have := (List.getElem?_eq_some_iff.mp e).1
      rw [List.length_append, List.length_singleton] at this
      omega
    by_cases hi : i < Γ.length
    · rw [List.getElem?_append_left hi] at e1
      rw [List.getElem?_append_left (hv.len ▸ hi)] at s1
      by_cases hj : j < Γ.length
      · rw [List.getElem?_append_left hj] at e2
        rw [List.getElem?_append_left (hv.len ▸ hj)]
        exact hv.ap i j k l p n e1 e2 m1 m2 s1
      · have ej := last j l hj e2
        subst ej
        rw [hv.len, List.getElem?_append_right (Nat.le_refl _), Nat.sub_self]
        intro z
        cases z
        exact old i k D e1 m1 s1 rfl
    · have ei := last i k hi e1
      subst ei
      rw [hv.len, List.getElem?_append_right (Nat.le_refl _), Nat.sub_self] at s1
      cases s1
      have hj : j < Γ.length := by
        have := (List.getElem?_eq_some_iff.mp e2).1
        rw [List.length_append, List.length_singleton] at this
        omega
      rw [List.getElem?_append_left hj] at e2
      rw [List.getElem?_append_left (hv.len ▸ hj)]
      intro z
      exact old j l D e2 m2 z rfl
theorem Hv.pop {K : PySem.W.Frag} {B : Bs} {σ : L2.St} {G H : Hp} {k : Sl} {o : Option V} (hv : Hv K B tp (Γ ++ [k]) (σ ++ [o]) G H) : Hv K B tp Γ σ G H := by
  have hl : Γ.length = σ.length := by
    have := hv.len
    rw [List.length_append, List.length_append, List.length_singleton, List.length_singleton] at this
    omega
  have up : ∀ (i : Nat) (k : Sl), Γ[i]? = some k → i < Γ.length := fun i k e => (List.getElem?_eq_some_iff.mp e).1
  refine ⟨hv.mn, hv.adv, hv.tape, fun i k e => ?_, hl, fun i j k l p n e1 e2 m1 m2 s1 => ?_⟩
  · have := hv.sl i k (by rw [List.getElem?_append_left (up i k e)]; exact e)
    rw [List.getElem?_append_left (hl ▸ up i k e)] at this
    exact this
  · have := hv.ap i j k l p n (by rw [List.getElem?_append_left (up i k e1)]; exact e1) (by rw [List.getElem?_append_left (up j l e2)]; exact e2) m1 m2 (by rw [List.getElem?_append_left (hl ▸ up i k e1)]; exact s1)
    rw [List.getElem?_append_left (hl ▸ up j l e2)] at this
    exact this
theorem Adv.updD {G H G' H' : Hp} {D : Addr} {o : HO} (a : Adv tp G H G' H') (h : H D = none) (g : G' D = none) : Adv tp G H G' (upd H' D o) where
  gx := a.gx
  hx := fun x u e n => by
    have ne : x ≠ D := fun z => by rw [z, h] at e; cases e
    rw [upd_ne ne]; exact a.hx x u e n
  dom := fun x e => by
    by_cases ne : x = D
    · rw [ne]; exact h
    · rw [upd_ne ne] at e; exact a.dom x e
  km := fun x u e m => by
    have ne : x ≠ D := fun z => by rw [z, h] at e; cases e
    rw [upd_ne ne]; exact a.km x u e m
  sub := fun x u e => by
    have ne : x ≠ D := fun z => by rw [z, g] at e; cases e
    rw [upd_ne ne]; exact a.sub x u e
  nw := a.nw
  tape := fun t e th => by
    have ne : t.1 ≠ D := fun z => by
      obtain ⟨i, j, k, _, _, _, q⟩ := th
      rw [z, h] at q
      cases q
    obtain ⟨i, j, k, b0, b1, b2, q⟩ := a.tape t e th
    exact ⟨i, j, k, b0, b1, b2, by rw [upd_ne ne]; exact q⟩
/-- the contexts of a comprehension's block -/
abbrev Bk (X : Cx) (scope : Scope) (s : Shared) (H : Hp) (C : Addr) (cl : List (Str × Addr)) (fp : List Addr) : Cx := X.blk s H scope (compEnvC scope cl C X.env) fp
def Ts (X : Cx) (scope : Scope) (tp : TPar) (Γ : List Sl) : List Expr → (Bool → Prop) → Prop
  | [], R => R true
  | [c], R => ∀ s H C cl fp, T (Bk X scope s H C cl fp) tp Γ c R
  | _, _ => False
def wTs (X : Cx) (scope : Scope) : List Expr → TT
  | [] => tYes
  | [c] => fun σ H Q => ∀ s H0 C cl fp, wT (Bk X scope s H0 C cl fp) c σ H Q
  | _ => fun _ _ _ => False
theorem pts_w {scope : Scope} {ifs : List Expr} (h : ifs.length ≤ 1) (s : Shared) (H : Hp) (C : Addr) (cl : List (Str × Addr)) (fp : List Addr) : PTs (Bk X scope s H C cl fp) ifs (wTs X scope ifs) := by
  match ifs, h with
  | [], _ => exact pts_nil
  | [c], _ => exact pts_one ⟨fun pins s' σ H' Q I h => h s H C cl fp pins s' I⟩
theorem wTs_of {scope : Scope} {ifs : List Expr} {R : Bool → Prop} (h : Ts X scope tp Γ ifs R) (hl : ifs.length ≤ 1) (B : Bs) (σ : L2.St) (G H : Hp) (hv : Hv X.K B tp Γ σ G H) (Q : Bool → Hp → Prop) (q : ∀ b G2 H2, R b → Adv tp G H G2 H2 → Q b H2) : wTs X scope ifs σ H Q := by
  match ifs, hl with
  | [], _ => exact q true G H h (Adv.refl hv.sub)
  | [c], _ => exact fun s H0 C cl fp => h s H0 C cl fp B σ G H hv Q q
/-- what a comprehension's parts have to show -/
structure Lc (X : Cx) (tp : TPar) (Γ : List Sl) (tg iter elt : Expr) (ifs : List Expr) (scope : Scope) (vs : List Nat) (Pl : List PyData → Prop) (J : List PyData → Nat → List PyData → Prop) (g : TG) : Prop where
  it : I X tp Γ tg iter Pl
  pg : ∀ s H C cl fp, PG (Bk X scope s H C cl fp) tg g
  few : ifs.length ≤ 1
  start : ∀ ds, Pl ds → J ds 0 []
  turn : ∀ ds, Pl ds → ∀ i d acc, ds[i]? = some d → J ds i acc → acc.length < 1000000 ∧ ∃ Γ2,
    (∀ (B : Bs) (σ : L2.St) (G H : Hp) (v : V) (Q : L2.St → Hp → Prop), Hv X.K B tp (wipeG Γ vs) σ G H → Dq G v d → (∀ σ', Hv X.K B tp Γ2 σ' G H → wipe σ' vs = wipe σ vs → Q σ' H) → g v σ H Q) ∧
    ∃ Pt : Bool → Prop, Ts X scope tp Γ2 ifs Pt ∧ (Pt false → J ds (i + 1) acc) ∧ (Pt true → ∀ s H C cl fp, E (Bk X scope s H C cl fp) tp Γ2 elt (fun y => J ds (i + 1) (acc ++ [y])))
theorem tlc_of {elt : Expr} {ifs : List Expr} {scope : Scope} {vs : List Nat} {J : List PyData → Nat → List PyData → Prop} {g : TG} (L : Lc X tp Γ tg iter elt ifs scope vs Pl J g) (B : Bs) (σ : L2.St) (G H : Hp) (hv : Hv X.K B tp Γ σ G H)
    (Q : VK) (q : ∀ p ws xs G2 H2, (∃ ds, Pl ds ∧ J ds ds.length xs) → H p = none → G2 p = none → H2 p = some (.lst ws) → DqAll G2 ws xs → Adv tp G H G2 H2 → Q (.ref p) H2) :
    tLc (wI X tg iter) g (wTs X scope ifs) (fun σ H Q => ∀ s H0 C cl fp, wE (Bk X scope s H0 C cl fp) elt σ H Q) vs σ H Q := by
  refine L.it B σ G H hv _ fun ds Jt G1 H1 hP a1 di D hD => ?_
  have hv1 := hv.adv' a1
  have hDH : H D = none := a1.dom D hD
  refine ⟨fun i m Hc => m = ds.length - i ∧ i ≤ ds.length ∧ ∃ acc G', J ds i acc ∧ Hv X.K B tp (Γ ++ [.own acc]) (σ ++ [some (.ref D)]) G' Hc ∧ Ex G1 G' ∧ Adv tp G H G' Hc,
    ⟨ds.length, by simp, Nat.zero_le _, [], G1, L.start ds hP, hv1.push hD, Ex.refl G1, a1.trans (Adv.hid a1.sub hD)⟩, ?_⟩
  rintro i m Hc ⟨rfl, hi, acc, G', hJ, hvE, exG, aG⟩
  have exH : Ex G1 Hc := exG.trans aG.sub
  have hslot : (Γ ++ [Sl.own acc])[Γ.length]? = some (.own acc) := by rw [List.getElem?_append_right (Nat.le_refl _), Nat.sub_self]; rfl
  have hσ : (σ ++ [some (V.ref D)])[Γ.length]? = some (some (.ref D)) := by rw [hv.len, List.getElem?_append_right (Nat.le_refl _), Nat.sub_self]; rfl
  by_cases hlt : i < ds.length
  · refine .inr ⟨di.go i Hc exH hlt, fun H2 => ∃ acc2 G2, J ds (i + 1) acc2 ∧ Hv X.K B tp (Γ ++ [.own acc2]) (σ ++ [some (.ref D)]) G2 H2 ∧ Ex G1 G2 ∧ Adv tp G H G2 H2,
      fun H2 ⟨acc2, G2, z⟩ => ⟨ds.length - (i + 1), by omega, rfl, hlt, acc2, G2, z⟩, fun x H2 hy => ?_⟩
    obtain ⟨d, G2, ed, hd2, a2⟩ := di.yld i Hc x H2 G' exG aG.sub hlt hy
    obtain ⟨hlen, Γ2, htg, Pt, hts, hf, ht⟩ := L.turn ds hP i d acc ed hJ
    have hvE2 := hvE.adv' a2
    refine htg B (wipe σ vs) G2 H2 x _ (hvE2.pop.wiped vs) hd2 fun σ3 hv3 hw3 => ⟨by rw [hw3, wipe_wipe _ _ _ fun j h => h], ?_⟩
    refine wTs_of hts L.few B σ3 G2 H2 hv3 _ fun b G3 H3 hb a3 => ?_
    have a23 := a2.trans a3
    cases b with
    | false =>
      rw [if_neg Bool.false_ne_true]
      exact ⟨acc, G3, hf hb, hvE.adv' a23, exG.trans a23.gx, aG.trans a23⟩
    | true =>
      rw [if_pos rfl]
      intro s H0 C cl fp
      refine ht hb s H0 C cl fp B σ3 G3 H3 (hv3.adv' a3) _ fun v dy G4 H4 hj hd4 a4 => ?_
      have a24 := a23.trans a4
      have hvE4 := hvE.adv' a24
      obtain ⟨ws, h4, hda⟩ := own_at hvE4 hslot hσ
      have aG4 := aG.trans a24
      have g4 : G4 D = none := by
        obtain ⟨p, vs', z1, _, z3, _⟩ := hvE4.sl _ _ hslot
        rw [hσ] at z1
        cases z1
        exact z3
      refine ⟨ws, h4, by rw [hda.length]; exact Nat.lt_of_lt_of_le hlen (by decide), acc ++ [dy], G4, hj, ?_, exG.trans a24.gx, aG4.updD hDH g4⟩
      have hw := hvE4.wrL hslot hσ (hda.append (.one hd4))
      rw [List.set_append_right _ _ (Nat.le_refl _), Nat.sub_self] at hw
      exact hw
  · have e : i = ds.length := by omega
    subst e
    obtain ⟨p, ws, z1, z2, z3, z4, z5⟩ := hvE.sl _ _ hslot
    rw [hσ] at z1
    cases z1
    exact .inl ⟨di.stop Hc exH, q D ws acc G' Hc ⟨ds, hP, hJ⟩ hDH z3 z4 z5 aG⟩
theorem pe_wB {scope : Scope} {elt : Expr} (s : Shared) (H : Hp) (C : Addr) (cl : List (Str × Addr)) (fp : List Addr) : PE (Bk X scope s H C cl fp) elt (fun σ H Q => ∀ s H0 C cl fp, wE (Bk X scope s H0 C cl fp) elt σ H Q) :=
  ⟨fun pins s' σ H' Q I h => h s H C cl fp pins s' I⟩
theorem o_lc {elt : Expr} {ifs : List Expr} {scope : Scope} {own : List (Str × Nat)} {J : List PyData → Nat → List PyData → Prop} {g : TG} (L : Lc X tp Γ tg iter elt ifs scope (own.map (·.2)) Pl J g) (ok : BlkOk X.N X.env.scope scope own) (hc : X.calm = true := by rfl) (hN : X.N.Nodup := by assumption)
    (hs : ∀ x, foldedSetIterable iter X.env x = pure x := by intro _; rfl) : O X tp Γ (.ListComp elt [⟨tg, iter, ifs, 0⟩] scope pos) (fun xs => ∃ ds, Pl ds ∧ J ds ds.length xs) := fun B σ G H hv Q q =>
  we_of (pe_lc (own := own) hc hN pi_w ok L.pg (pts_w L.few) pe_wB hs) (tlc_of L B σ G H hv Q q)
/-- x = [..] on one line -/
theorem s_asgLc (i : Nat) {x : Str} {elt : Expr} {ifs : List Expr} {scope : Scope} {own : List (Str × Nat)} {J : List PyData → Nat → List PyData → Prop} {g : TG} (L : Lc X tp Γ tg iter elt ifs scope (own.map (·.2)) Pl J g) (ok : BlkOk X.N X.env.scope scope own) (k : ∀ ds xs, Pl ds → J ds ds.length xs → Z.nx (Γ.set i (.own xs)))
    (hc : X.calm = true := by rfl) (hN : X.N.Nodup := by assumption) (hi : X.N[i]? = some x := by rfl) (hx : X.env.scope.names.lookup x = some .local := by rfl) (hsw : swapsWith (.ListComp elt [⟨tg, iter, ifs, 0⟩] scope pos) (some (.Name x p2)) p3.line X.env = pure true := by exact sw_true rfl rfl rfl (by decide +kernel))
    (hs : ∀ x, foldedSetIterable iter X.env x = pure x := by intro _; rfl) : S1 X tp Γ (.Assign [.Name x p2] (.ListComp elt [⟨tg, iter, ifs, 0⟩] scope pos) p3) Z :=
  s1_of (ps_setLc (own := own) hc hN hi hx hsw pi_w ok L.pg (pts_w L.few) pe_wB hs) fun B σ G H D hv cn => tlc_of L B σ G H hv _ fun p ws xs G2 H2 ⟨ds, hp, hj⟩ hn hg hh hd a =>
    cn.nx _ _ G2 H2 (k ds xs hp hj) (hv.setM a hn ⟨p, ws, rfl, hv.adv.dom p hn, hg, hh, hd⟩)
end
end Ly


set_option Elab.async false
set_option linter.all false
set_option maxRecDepth 100000
set_option maxHeartbeats 2000000
namespace Ly
open PySem PySem.Spec PyProof.Rows L2 Evl
/-- the slots at a def's entry -/
def Gam0 (N : List Str) (ds : List PyData) : List Sl := ds.map .dat ++ List.replicate (N.length - ds.length) .any
def GamT (N : List Str) (ds : List PyData) : List Sl := .tape :: (ds.map .dat ++ List.replicate (N.length - (ds.length + 1)) .any)
/-- the context of a def's body -/
abbrev Bx (P : Program) (w : World) (K : PySem.W.Frag) (mg : Str → Option Value) (base : Heap) (N : List Str) (qual : Str) (st : Stmt) (f : Addr) (cdv : Value) (A : Around) (outer : List PySem.Env) (s : Shared) (H : Hp) (E : XK) : Cx :=
  (cxOf CX0 P w K mg base N qual (defScope st) f cdv A outer s H E).nox
section
variable {P : Program} {w : World} {K : PySem.W.Frag} {mg : Str → Option Value} {base : Heap}
theorem sl_start {N : List Str} {vs : List V} {ds : List PyData} {G H H0 : Hp} {tp : TPar} (hd : DqAll G vs ds) (hl : ds.length ≤ N.length) : ∀ (i : Nat) (k : Sl), (Gam0 N ds)[i]? = some k → SlOk K tp H0 G H k (L2.start N vs)[i]? := fun i k e => by
  unfold Gam0 at e
  unfold L2.start
  have hv := hd.length
  rcases Nat.lt_or_ge i ds.length with hi | hi
  · rw [List.getElem?_append_left (by rw [List.length_map]; exact hi), List.getElem?_map] at e
    rw [List.getElem?_append_left (by rw [List.length_map, hv]; exact hi), List.getElem?_map]
    obtain ⟨v, e1, e2⟩ := hd.get (List.getElem?_eq_getElem hi)
    rw [List.getElem?_eq_getElem hi] at e
    cases e
    rw [e1]
    exact ⟨v, rfl, e2⟩
  · rw [List.getElem?_append_right (by rw [List.length_map]; exact hi)] at e
    have := List.mem_of_getElem? e
    rw [List.mem_replicate] at this
    rw [this.2]
    trivial
theorem ap_dat {ds : List PyData} {n : Nat} : ∀ (i : Nat) (k : Sl), (ds.map Sl.dat ++ List.replicate n Sl.any)[i]? = some k → k.mut = false := fun i k e => by
  have := List.mem_of_getElem? e
  rcases List.mem_append.mp this with h | h
  · obtain ⟨d, _, rfl⟩ := List.mem_map.mp h
    rfl
  · rw [(List.mem_replicate.mp h).2] <;> rfl
theorem df_mk {ι : Type} {args : ι → List PyData} {pre : ι → Prop} {res : ι → Rv → Prop} {k : Nat} {name : Str} {st : Stmt} {N ps : List Str} (F : Dt K mg name st ps) (S' : FnScope N ps (defScope st)) (hlen : ∀ i, (args i).length = ps.length)
    (body : ∀ (f : Addr) (cdv : Value) (A : Around) (outer : List PySem.Env) (s : Shared) (H : Hp) (E : XK), Room k (Bx P w K mg base N name st f cdv A outer s H E).A → ∀ i, pre i →
      S (Bx P w K mg base N name st f cdv A outer s H E) none (Gam0 N (args i)) (defBody st) { nx := fun _ => False, rt := res i }) : Df P w K mg base (k + 1) name ps (spI K args pre res) := by
  obtain ⟨f, fd, F, hm, hb⟩ := F.ex
  have hpl : ps.length ≤ N.length := by
    have := congrArg List.length S'.pre
    rw [List.length_take] at this
    omega
  refine ⟨f, fd, F.ok S' (fun vs H Q E h => ?_) (fun cdv A outer s H vs Q E hr h => ?_), hm, F.kp, hb⟩
  · obtain ⟨i, G, _, hd, _⟩ := h
    rw [hd.length, hlen]
  · obtain ⟨i, G, hs, hd, hp, q⟩ := h
    have hda : (args i).length ≤ N.length := by rw [hlen]; exact hpl
    refine ⟨wSs _ (defBody st), pss_w, body f cdv A outer s H E hr i hp ⟨G, G, H⟩ (L2.start N vs) G H _ ⟨Ex.refl G, Adv.refl hs, (fun t e => by cases e), sl_start hd hda, ?_, fun i j k l p n e1 _ m1 => ?_⟩ ⟨fun _ _ _ _ z => z.elim, fun r v G2 H2 hr ok a => q r v G2 H2 hr ok a, fun _ _ _ _ z => z.elim, fun _ _ _ _ z => z.elim⟩⟩
    · unfold Gam0 L2.start
      rw [List.length_append, List.length_append, List.length_map, List.length_map, List.length_replicate, List.length_replicate, hd.length]
    · have := ap_dat i k e1
      rw [this] at m1
      cases m1
/-- a def that draws -/
theorem df_mkT {ι : Type} {args : ι → List PyData} {pre : ι → Prop} {res : ι → Rv → Prop} {k : Nat} {name : Str} {st : Stmt} {N ps : List Str} (F : Dt K mg name st ps) (S' : FnScope N ps (defScope st)) (hlen : ∀ i, (args i).length + 1 = ps.length)
    (body : ∀ (f : Addr) (cdv : Value) (A : Around) (outer : List PySem.Env) (s : Shared) (H : Hp) (E : XK), Room k (Bx P w K mg base N name st f cdv A outer s H E).A → ∀ i t, pre i →
      S (Bx P w K mg base N name st f cdv A outer s H E) (some t) (GamT N (args i)) (defBody st) { nx := fun _ => False, rt := res i }) : Df P w K mg base (k + 1) name ps (spT K args pre res) := by
  obtain ⟨f, fd, F, hm, hb⟩ := F.ex
  have hpl : ps.length ≤ N.length := by
    have := congrArg List.length S'.pre
    rw [List.length_take] at this
    omega
  refine ⟨f, fd, F.ok S' (fun vs H Q E h => ?_) (fun cdv A outer s H vs Q E hr h => ?_), hm, F.kp, hb⟩
  · obtain ⟨i, G, t, ws, rfl, _, _, _, hd, _⟩ := h
    rw [List.length_cons, hd.length, hlen]
  · obtain ⟨i, G, t, ws, rfl, hs, th, tg, hd, hp, q⟩ := h
    have hda : (args i).length + 1 ≤ N.length := by rw [hlen]; exact hpl
    have hH : H t.1 ≠ none := by
      obtain ⟨_, _, _, _, _, _, e⟩ := th
      rw [e]
      exact fun z => nomatch z
    have est : L2.start N (.ref t.1 :: ws) = some (.ref t.1) :: (ws.map some ++ List.replicate (N.length - (ws.length + 1)) none) := rfl
    refine ⟨wSs _ (defBody st), pss_w, body f cdv A outer s H E hr i t hp ⟨G, G, H⟩ (L2.start N (.ref t.1 :: ws)) G H _ ⟨Ex.refl G, Adv.refl hs, fun t' e => ?_, fun j kk e => ?_, ?_, fun a b kk l p n e1 e2 m1 m2 _ => ?_⟩ ⟨fun _ _ _ _ z => z.elim, fun r v G2 H2 hr ok a => q r v G2 H2 hr ok a, fun _ _ _ _ z => z.elim, fun _ _ _ _ z => z.elim⟩⟩
    · cases e
      exact ⟨th, tg, hH⟩
    · rw [est]
      unfold GamT at e
      cases j with
      | zero =>
        rw [List.getElem?_cons_zero] at e
        cases e
        exact ⟨t, rfl, rfl⟩
      | succ j =>
        rw [List.getElem?_cons_succ] at e ⊢
        have := sl_start (K := K) (N := List.replicate (N.length - 1) Str.empty) (tp := some t) (H0 := H) (H := H) hd (by rw [List.length_replicate]; omega) j kk
        unfold Gam0 L2.start at this
        rw [List.length_replicate, show N.length - 1 - (args i).length = N.length - ((args i).length + 1) by omega, show N.length - 1 - ws.length = N.length - (ws.length + 1) by omega] at this
        exact this e
    · rw [est]
      unfold GamT
      rw [List.length_cons, List.length_cons, List.length_append, List.length_append, List.length_map, List.length_map, List.length_replicate, List.length_replicate, hd.length]
    · unfold GamT at e1 e2
      cases a with
      | zero =>
        cases b with
        | zero => exact absurd rfl n
        | succ b =>
          rw [List.getElem?_cons_succ] at e2
          rw [ap_dat b l e2] at m2
          cases m2
      | succ a =>
        rw [List.getElem?_cons_succ] at e1
        rw [ap_dat a kk e1] at m1
        cases m1
end
end Ly


set_option Elab.async false
set_option linter.all false
set_option maxRecDepth 100000
set_option maxHeartbeats 2000000
namespace Ly
open PySem PySem.Spec PyProof.Rows L2 Evl
section
variable {X : Cx} {tp : TPar} {Γ : List Sl} {e a b c : Expr} {es : List Expr} {P P' R : PyData → Prop} {pos apos p2 p3 : Pos} {K : PySem.W.Frag}

/-! ### z[::-1] of a text -/
def tRevS (te : TE) : TE := fun σ H Q => te σ H fun x H1 => ∃ z, x = .str z ∧ z.length ≤ 100000 ∧ Q (.str ⟨z.cps.toList.reverse.toArray⟩) H1
theorem idx_back (n : Nat) : Builtin.Str.strSliceIndices none none (-1) n = (List.range n).map fun k => n - 1 - k := by
  show sliceRange (if (-1 : Int) > 0 then 0 else (n : Int) - 1) (if (-1 : Int) > 0 then (n : Int) else -1) (-1) = _
  rw [if_neg (by decide), if_neg (by decide)]
  unfold sliceRange
  rw [if_neg (by decide)]
  have e1 : (- -1 : Int) = 1 := rfl
  by_cases h : (n : Int) - 1 > -1
  · rw [if_pos h, e1]
    show (List.range (((n : Int) - 1 - -1 - -1 - 1) / 1).toNat).map _ = _
    have e : ((((n : Int) - 1 - -1 - -1 - 1) / 1).toNat) = n := by rw [Int.ediv_one]; omega
    rw [e]
    refine List.map_congr_left fun k hk => ?_
    have := List.mem_range.mp hk
    omega
  · rw [if_neg h]
    have e : n = 0 := by omega
    subst e
    rfl
theorem fm_eq {α β : Type} {f : α → Option β} {h : α → β} : ∀ {l : List α}, (∀ k ∈ l, f k = some (h k)) → l.filterMap f = l.map h
  | [], _ => rfl
  | x :: l, q => by rw [List.filterMap_cons, q x List.mem_cons_self, List.map_cons, fm_eq fun k hk => q k (List.mem_cons_of_mem _ hk)]
theorem pick_back (z : Str) : (((List.range z.length).map fun k => z.length - 1 - k).filterMap (z.cps[·]?)).toArray = z.cps.toList.reverse.toArray := by
  congr 1
  refine List.ext_getElem? fun i => ?_
  have hl : z.length = z.cps.toList.length := by unfold Str.length; rw [Array.length_toList]
  have hf : ((List.range z.length).map fun k => z.length - 1 - k).filterMap (z.cps[·]?) = (List.range z.length).map fun k => (z.cps.toList)[z.length - 1 - k]?.getD 0 := by
    rw [List.filterMap_map]
    refine fm_eq fun k hk => ?_
    have hk' := List.mem_range.mp hk
    show z.cps[z.length - 1 - k]? = _
    rw [← Array.getElem?_toList, List.getElem?_eq_getElem (by omega)]
    rfl
  rw [hf, List.getElem?_map]
  by_cases hi : i < z.length
  · rw [List.getElem?_range hi, List.getElem?_reverse (by omega), ← hl, Option.map_some, List.getElem?_eq_getElem (by omega)]
    rfl
  · rw [List.getElem?_eq_none (by rw [List.length_range]; omega), List.getElem?_eq_none (by rw [List.length_reverse]; omega)]
    rfl
theorem pe_revS {k : Nat} {p1 q1 q2 q3 : Pos} {te : TE} (he : PE X e te) : PE X (.Subscript e (.Slice none none (some (.UnaryOp .USub (.Constant (.int 1) k p1) q1)) q2) q3) (tRevS te) := ⟨by
  intro pins s σ H Q I h
  refine Subscript_ (thn (he.run pins s σ H _ I h) ?_)
  rintro v s1 ⟨x, H1, I1, r1, z, rfl, hz, q⟩
  obtain ⟨tz, rfl⟩ := r1
  have hst : PO X (some (.UnaryOp .USub (.Constant (.int 1) k p1) q1)) (tPart (tUn (rU fun i => .int (-i)) (tC (.int 1)))) := po_some (pe_un un_neg pe_int)
  refine wpAny_Slice (thn (po_none.run pins s1 σ H1 (fun o H2 => o = none ∧ H2 = H1) I1 ⟨rfl, rfl⟩) ?_)
  rintro vl s2 ⟨l, H2, I2, pl, rfl, rfl⟩
  refine thn (po_none.run pins s2 σ H2 (fun o H3 => o = none ∧ H3 = H2) I2 ⟨rfl, rfl⟩) ?_
  rintro vu s3 ⟨u, H3, I3, pu, rfl, rfl⟩
  refine thn (hst.run pins s3 σ H3 (fun o H4 => o = some (-1) ∧ H4 = H3) I3 ⟨1, rfl, -1, rfl, rfl, rfl⟩) ?_
  rintro vs s4 ⟨o, H4, I4, ps, rfl, rfl⟩
  obtain ⟨l', rfl, el⟩ := IsPart.raw pl
  obtain ⟨u', rfl, eu⟩ := IsPart.raw pu
  obtain ⟨w', rfl, ew⟩ := IsPart.raw ps
  have I5 := I4.kept (h' := s4.heap.push { cls := .type "slice", data := .fields #[partValue l', partValue u', partValue w'] }) (t' := s4.toks) fun b ob q => Heap.get?_push_of_some _ q
  show wpAny (model X.prog X.w) X.A (subscriptTail e (.Slice none none (some (.UnaryOp .USub (.Constant (.int 1) k p1) q1)) q2) (.str z tz) (.ref s4.heap.objs.size)) (EP X pins σ Q) X.xe { s4 with heap := s4.heap.push { cls := .type "slice", data := .fields #[partValue l', partValue u', partValue w'] } }
  refine tail_any (ops := [.str z tz, .ref s4.heap.objs.size]) (typeIs_str _ _ _) PySem.F.slot_str_getitem.lookup ?_ (by with_unfolding_all rfl)
  refine wpAny_getItem_str_slice (l := l') (u := u') (st := w') ⟨_, Heap.get?_push_size _ rfl, rfl, rfl⟩ (by rw [ew]; rfl) ?_
  unfold sliceMade slicePicked
  rw [el, eu, ew]
  show Made.post (if ((-1 : Int) == 1 && _) = true then _ else Made.str ⟨((Builtin.Str.strSliceIndices none none (-1) z.length).filterMap (z.cps[·]?)).toArray⟩) _ _
  rw [if_neg (by simp), idx_back, pick_back]
  refine ⟨?_, .str _, _, I5.tok _, ⟨_, rfl⟩, q⟩
  show z.cps.toList.reverse.toArray.size ≤ sizeLine
  rw [List.size_toArray, List.length_reverse, Array.length_toList]
  exact Nat.le_trans hz (by decide)⟩
theorem e_revS {z : Str} {k : Nat} {p1 q1 q2 : Pos} (h : Ed X tp Γ e (.str z)) (hz : z.length ≤ 100000) : Ed X tp Γ (.Subscript e (.Slice none none (some (.UnaryOp .USub (.Constant (.int 1) k p1) q1)) q2) pos) (.str ⟨z.cps.toList.reverse.toArray⟩) :=
  e_of (pe_revS pe_w) fun B σ G H hv Q q => h B σ G H hv _ fun v d G2 H2 hd hx a => by
    subst hd
    cases hx
    exact ⟨z, rfl, hz, q _ _ G2 H2 rfl (.str _) a⟩

/-! ### z * n -/
theorem op_mulS : OpR X (binaryOp .Mult) (fun x y H Q => ∃ z n, x = .str z ∧ y = .int n ∧ MulOk z n ∧ Q (.str (Txt.mul z n)) H) := by
  rintro pins s σ H x y v u Q I rx ry ⟨z, n, rfl, rfl, hok, q⟩
  obtain ⟨t, rfl⟩ := rx
  obtain ⟨t', rfl⟩ := ry
  exact SB.mul hok fun t2 k => ⟨.str _, H, I.tok k, ⟨t2, rfl⟩, q⟩
theorem e_mulS {z : Str} (ha : Ed X tp Γ a (.str z)) (hb : E X tp Γ b P) (hP : ∀ d, P d → ∃ n : Int, d = .int n ∧ MulOk z n) : E X tp Γ (.BinOp a .Mult b pos) (fun d => ∃ n : Int, P (.int n) ∧ d = .str (Txt.mul z n)) :=
  e_op op_mulS ha hb fun dx dy e1 hp x y G H hs hx hy Q q => by
    subst e1
    obtain ⟨n, rfl, hok⟩ := hP dy hp
    cases hx; cases hy
    exact ⟨z, n, rfl, rfl, hok, q _ _ G H ⟨n, hp, rfl⟩ (.str _) (Adv.refl hs)⟩

/-! ### a or b of texts -/
theorem e_orS {z : Str} (ha : E X tp Γ a P) (hP : ∀ d, P d → ∃ z, d = .str z ∧ z.length ≤ 100000) (h1 : ∀ z, P (.str z) → z.length ≠ 0 → R (.str z)) (h2 : ∀ z, P (.str z) → z.length = 0 → E X tp Γ (.BoolOp .Or [b] pos) R) : E X tp Γ (.BoolOp .Or [a, b] pos) R :=
  e_of (pe_orT pe_w pe_w) fun B σ G H hv Q q => ha B σ G H hv _ fun v d G2 H2 hd hx a2 => by
    obtain ⟨z, rfl, hz⟩ := hP d hd
    cases hx
    refine ⟨((z.length : Int) != 0), ⟨Nat.le_trans hz (by decide), rfl⟩, ?_⟩
    by_cases e : z.length = 0
    · have eb : ((z.length : Int) != 0) = false := by simp [e]
      rw [eb, if_neg Bool.false_ne_true]
      exact h2 z hd e B σ G2 H2 (hv.adv' a2) Q fun v d G3 H3 hr hx a3 => q v d G3 H3 hr hx (a2.trans a3)
    · have eb : ((z.length : Int) != 0) = true := by simp [e]
      rw [eb, if_pos rfl]
      exact q _ _ G2 H2 (h1 z hd e) (.str z) a2
end
end Ly


set_option Elab.async false
set_option linter.all false
set_option maxRecDepth 100000
set_option maxHeartbeats 2000000
/-! min of two data, sorted of data, enumerate of a tuple -/
namespace Mx
open PySem PySem.W PyProof.Rows L2
section
variable {prog : Program} {w : World} {A : Around} {E : Value → Shared → Prop} {s : Shared}
theorem min_two_data {a b : Value} {x y : PyData} {as bs : List Addr} {Q : Value → Shared → Prop} (hh : A.handled = none) (ra : Reads s.heap a x as) (rb : Reads s.heap b y bs) (ha : PySem.W.AlikeAll [x, y]) (hu : A.units + 1 + PyData.depthAll [x, y] < cLine)
    (h : ∀ h' tk, (∀ b o, s.heap.get? b = some o → h'.get? b = some o) → Q (if PySem.W.dataLt y x then b else a) { s with heap := h', toks := tk }) : wpAny (model prog w) A (call (.builtin "min") [a, b]) Q E s := by
  have hname : (toString "min" ++ toString ".loop" : String) = "min.loop" := by decide
  refine call_function_tree PySem.F.kind_min PySem.F.plain_min PySem.F.entry_min (PySem.F.args_min2 _ _) ?_
  have hbp : Builtin.Builtins.bindParams "min" ["key", "default"] 0 ⟨[], []⟩ = pure [none, none] := rfl
  refine wpAny_bind (m := Builtin.Builtins.bindParams "min" ["key", "default"] 0 ⟨[], []⟩) (wpAny_of_eq hbp ?_)
  show wpAny _ A.in1 (newTuple [a, b] >>= _) _ _ s
  refine wpAny_bind (wpAny_newObj_type ?_)
  generalize es : ({ s with heap := s.heap.push { cls := .type "tuple", data := .seq [a, b].toArray } } : Shared) = s1
  have k1 : ∀ c o, s.heap.get? c = some o → s1.heap.get? c = some o := fun c o e => by
    rw [← es]
    exact Heap.get?_push_of_some _ e
  have hT : s1.heap.IsTuple s.heap.objs.size #[a, b] := by
    rw [← es]
    exact ⟨_, Heap.get?_push_size _ rfl, rfl, 0, rfl⟩
  have hr : ReadsAll s1.heap (#[a, b] : Array Value).toList [x, y] (as ++ (bs ++ [])) := .cons (Reads.keeps k1 ra) (.cons (Reads.keeps k1 rb) .nil)
  refine wpAny_bind (iter_tupleW (A := A.in1) hh hT fun s2 e W st hfp hw hk => ?_)
  refine wpAny_bind (wpAny_newObj_type ?_)
  have hSf : s2.heap.objs.size ∉ [s1.heap.objs.size, s.heap.objs.size] := fun hm => absurd (hfp _ hm) (Nat.lt_irrefl _)
  rw [hname]
  refine wpAny_pure ⟨plainId_quiet PySem.F.plain_min_loop _, codeAny_min_loop_firstH W s1.heap hw _ (cmpIn_lt (A := A.in1) hr ha (by show A.units + 1 + _ < _; exact hu)) s2.heap.objs.size hSf (fresh_in hk) _ (show 0 < 2 by decide) (fun c o e => Heap.get?_push_of_some _ (hk c o e)) (W.frame 0 s2 _ s2.toks st (Nat.le_refl _) fun c _ o e => Heap.get?_push_of_some _ e) (Heap.get?_push_size _ rfl) fun v s' hP hm => ?_⟩
  obtain ⟨h', tk, rfl, hk'⟩ := moved_old e rfl (Moved.drop_new (tk := s2.toks) hm (Nat.le_refl _))
  have hq := h h' tk fun c o e => hk' c o (k1 c o e)
  have e1 : argBest (fun i j => PySem.W.dataLt ([x, y].getD i .none) ([x, y].getD j .none)) ((#[a, b] : Array Value).size - 1) = if PySem.W.dataLt y x then 1 else 0 := rfl
  rw [e1] at hP
  have es' : ({ s1 with heap := h', toks := tk } : Shared) = { s with heap := h', toks := tk } := by rw [← es]
  rw [es']
  by_cases c : PySem.W.dataLt y x = true
  · rw [if_pos c] at hP hq
    cases hP
    exact hq
  · rw [if_neg c] at hP hq
    cases hP
    exact hq
end
end Mx
namespace Ly
open PySem PySem.Spec PyProof.Rows L2 Evl
section
variable {X : Cx} {tp : TPar} {Γ : List Sl} {e a b c : Expr} {es : List Expr} {P P' R : PyData → Prop} {pos apos p2 p3 : Pos} {K : PySem.W.Frag}
theorem call_min2D (hc : X.calm = true) (hu : X.A.units + 64 < cLine) : CallR X (.builtin "min") (fun xs H Q => ∃ x y dx dy, xs = [x, y] ∧ Dq H x dx ∧ Dq H y dy ∧ PySem.W.AlikeAll [dx, dy] ∧ PyData.depthAll [dx, dy] ≤ 20 ∧ Q (if PySem.W.dataLt dy dx then y else x) H) := by
  rintro pins s σ H xs us Q I r ⟨x, y, dx, dy, rfl, hx, hy, ha, hd, q⟩
  obtain ⟨u1, u2, rfl, r1, r2⟩ := vals2 r
  obtain ⟨as, ra⟩ := Dp.reads I dx x u1 hx.dp r1
  obtain ⟨bs, rb⟩ := Dp.reads I dy y u2 hy.dp r2
  refine Mx.min_two_data (I.ok.hd hc) ra rb ha (by omega) fun h' tk hk => ⟨_, H, I.kept hk, ?_, q⟩
  by_cases c : PySem.W.dataLt dy dx = true
  · rw [if_pos c, if_pos c]; exact r2
  · rw [if_neg c, if_neg c]; exact r1
theorem e_min2D {dx dy : PyData} (hc : X.calm = true) (hu : X.A.units + 64 < cLine) (hm : X.mg "min" = none) (ha : Ed X tp Γ a dx) (hb : Ed X tp Γ b dy) (hal : PySem.W.AlikeAll [dx, dy]) (hdp : PyData.depthAll [dx, dy] ≤ 20)
    (hg : Gl X "min" := by rfl) (he : starEach [a, b] X.env = (false, eval a X.env) :: starEach [b] X.env := by rfl) (he2 : starEach [b] X.env = (false, eval b X.env) :: starEach [] X.env := by rfl) (hpl : (backTo pos (starEach [b] X.env)).any (·.1) = false := by rfl) :
    Ed X tp Γ (.Call (.Name "min" p2) [a, b] [] pos) (if PySem.W.dataLt dy dx then dy else dx) :=
  e_blt (call_min2D hc hu) hm (by decide +kernel) (a_cons ha (a_cons hb a_nil he2) he) (fun vs G H hs hd Q q => by
    cases hd with
    | cons h1 h2 =>
      cases h2 with
      | cons h2 h3 =>
        cases h3
        refine ⟨_, _, dx, dy, rfl, Dq.ex h1 hs, Dq.ex h2 hs, hal, hdp, q _ _ G H rfl ?_ (Adv.refl hs)⟩
        by_cases c : PySem.W.dataLt dy dx = true
        · rw [if_pos c, if_pos c]; exact h2
        · rw [if_neg c, if_neg c]; exact h1) hg (by decide) (by decide) he hpl

/-! ### sorted of data -/
theorem each_zip {H : Hp} : ∀ {xs : List V} {ds : List PyData} {us : List Value}, DqAll H xs ds → Vals xs us → PySem.W.EachIs (fun u (b : V × PyData) => RelV b.1 u) us (xs.zip ds)
  | _, _, _, .nil, .nil => .nil
  | _, _, _, .cons _ t, .cons r q => .cons r (each_zip t q)
theorem zip_snd {H : Hp} : ∀ {xs : List V} {ds : List PyData}, DqAll H xs ds → (xs.zip ds).map (·.2) = ds
  | _, _, .nil => rfl
  | _, _, .cons _ t => by rw [List.zip_cons_cons, List.map_cons, zip_snd t]
theorem zip_dp {H : Hp} : ∀ {xs : List V} {ds : List PyData}, DqAll H xs ds → ∀ b ∈ xs.zip ds, Dq H b.1 b.2
  | _, _, .nil, b, h => nomatch h
  | _, _, .cons h t, b, hb => by
    rcases List.mem_cons.mp hb with rfl | hb
    · exact h
    · exact zip_dp t b hb
theorem dpAll_of {H : Hp} : ∀ {bs : List (V × PyData)}, (∀ b ∈ bs, Dq H b.1 b.2) → DqAll H (bs.map (·.1)) (bs.map (·.2))
  | [], _ => .nil
  | b :: bs, h => .cons (h b List.mem_cons_self) (dpAll_of fun c hc => h c (List.mem_cons_of_mem _ hc))
theorem vals_of : ∀ {us : List Value} {bs : List (V × PyData)}, PySem.W.EachIs (fun u (b : V × PyData) => RelV b.1 u) us bs → Vals (bs.map (·.1)) us
  | _, _, .nil => .nil
  | _, _, .cons r t => .cons r (vals_of t)
theorem each_imp {α β : Type} {R R' : α → β → Prop} : ∀ {as : List α} {bs : List β}, PySem.W.EachIs R as bs → (∀ a b, b ∈ bs → R a b → R' a b) → PySem.W.EachIs R' as bs
  | _, _, .nil, _ => .nil
  | _, _, .cons r t, h => .cons (h _ _ List.mem_cons_self r) (each_imp t fun a b hb => h a b (List.mem_cons_of_mem _ hb))
theorem call_sortedD (hu : X.A.units + 64 < cLine) : CallR X (.builtin "sorted") (fun xs H Q => ∃ a ds, xs = [.ref a] ∧ Dq H (.ref a) (.list ds) ∧ PySem.W.AllAlike ds ∧ PySem.W.Sortable ds ∧ (∀ d ∈ ds, d.depth ≤ 20) ∧
    ∀ p ws es, es.Perm ds → (∀ G, Ex G H → Dq G (.ref a) (.list ds) → DqAll G ws es) → H p = none → Q (.ref p) (upd H p (.lst ws))) := by
  rintro pins s σ H xs us Q I r ⟨a, ds, rfl, hd, hal, hso, hdp, q⟩
  rw [Vals.ref1 r]
  cases hd with
  | lst hs hda =>
    rename_i vs
    obtain ⟨its, rv, pl, hz⟩ := I.list (SqL.of hs)
    have e0 := each_zip hda rv
    have ez := zip_snd hda
    have hlen := hda.length
    have hlz : (vs.zip ds).length = ds.length := by rw [List.length_zip, hlen, Nat.min_self]
    refine PySem.W.sorted_data (R := fun u (b : V × PyData) => RelV b.1 u) (enc := fun b => b.2) pl.isList e0 (each_imp e0 fun u b hb hr => Dp.reads I b.2 b.1 u (zip_dp hda b hb).dp hr) (by rw [ez]; exact hal) (by rw [ez]; exact hso) (by rw [hlz, ← hlen]; exact hz) (fun b hb => ?_) fun out ho eo => ?_
    · have hm : b.2 ∈ ds := by rw [← ez]; exact List.mem_map_of_mem hb
      have := hdp _ hm
      omega
    · obtain ⟨ep, he'⟩ := PyProof.Rows.sortedAll_at s.heap its out.toArray
      have hpm := List.mergeSort_perm (vs.zip ds) (PySem.W.dataLe false fun b : V × PyData => b.2)
      have hD : ∀ G, Ex G H → Dq G (.ref a) (.list ds) → DqAll G (((vs.zip ds).mergeSort (PySem.W.dataLe false fun b => b.2)).map (·.1)) (((vs.zip ds).mergeSort (PySem.W.dataLe false fun b => b.2)).map (·.2)) := fun G hx hg => by
        cases hg with
        | lst hs' hd' =>
          have ev := I.list_inj (SqL.of (hx _ _ hs')) (SqL.of hs)
          subst ev
          exact dpAll_of fun b hb => zip_dp hd' b (hpm.mem_iff.mp hb)
      have hL : (((vs.zip ds).mergeSort (PySem.W.dataLe false fun b => b.2)).map (·.1)).length ≤ sizeLine := by rw [List.length_map, hpm.length_eq, hlz, ← hlen]; exact hz
      have hperm : (((vs.zip ds).mergeSort (PySem.W.dataLe false fun b => b.2)).map (·.2)).Perm ds := by
        have := hpm.map (·.2)
        rw [ez] at this
        exact this
      have hf : H (s.heap.objs.size + 1) = none := I.hok.fresh (Nat.le_succ _)
      exact ⟨.ref _, _, I.laid (o := .lst _) (t' := s.toks) (fun _ _ => PyProof.Rows.sortedAll_old) (Nat.le_succ _) ⟨hL, out, ep, vals_of eo, he'⟩, rfl, q _ _ _ hperm hD hf⟩
theorem o_sorted {ds : List PyData} (hu : X.A.units + 64 < cLine) (hm : X.mg "sorted" = none) (h : Ed X tp Γ e (.list ds)) (hal : PySem.W.AllAlike ds) (hso : PySem.W.Sortable ds) (hdp : ∀ d ∈ ds, d.depth ≤ 20)
    (hg : Gl X "sorted" := by rfl) (he : starEach [e] X.env = (false, eval e X.env) :: starEach [] X.env := by rfl) (hpl : (backTo pos (starEach [] X.env)).any (·.1) = false := by rfl) :
    O X tp Γ (.Call (.Name "sorted" p2) [e] [] pos) (fun es => es.Perm ds) :=
  o_blt (call_sortedD hu) hm (by decide +kernel) (a_cons h a_nil he) (fun vs G H hs hd Q q => by
    cases hd with
    | cons h1 h2 =>
      cases h2
      cases h1 with
      | lst s1 d1 =>
        refine ⟨_, ds, rfl, Dq.ex (.lst s1 d1) hs, hal, hso, hdp, fun p ws es hp hd hn => ?_⟩
        exact q p ws es G _ hp hn (fresh_back hs hn) upd_same (hd G hs (.lst s1 d1)) (Adv.hid hs hn)) hg (by decide) (by decide) he hpl
end
end Ly


set_option Elab.async false
set_option linter.all false
set_option maxRecDepth 100000
set_option maxHeartbeats 3200000
/-! set(a list of texts), any number below the bound -/
namespace Mx
open PySem PySem.Spec PyProof.Rows
/-- each text once, in the order in which they come -/
def ddS (acc : List Str) (x : Str) : List Str := if acc.any (· == x) then acc else acc ++ [x]
def ddT (xs : List Str) : List Str := xs.foldl ddS []
theorem ddS_any (acc : List Str) (x k : Str) : (ddS acc x).any (· == k) = (acc.any (· == k) || decide (k = x)) := by
  unfold ddS
  by_cases h : acc.any (· == x) = true
  · rw [if_pos h]
    by_cases e : k = x
    · rw [e, h]; simp
    · simp [e]
  · rw [if_neg h, List.any_append]
    by_cases e : k = x
    · subst e; simp
    · have hb : (x == k) = false := by simpa [beq_iff_eq] using fun z : x = k => e z.symm
      simp [hb, e]
theorem ddS_len (acc : List Str) (x : Str) : (ddS acc x).length = if acc.any (· == x) then acc.length else acc.length + 1 := by unfold ddS; split <;> simp
theorem ddT_le (xs : List Str) : ∀ acc : List Str, (xs.foldl ddS acc).length ≤ acc.length + xs.length := by
  induction xs with
  | nil => intro acc; exact Nat.le_refl _
  | cons x xs ih =>
    intro acc
    have h1 := ih (ddS acc x)
    have h2 := ddS_len acc x
    rw [List.foldl_cons, List.length_cons]
    split at h2 <;> omega
abbrev setObj (led : Bool) : Obj := { cls := .type "set", dict := none, data := .set #[] 0 (.fresh 0 0 led) }
section
variable {prog : Program} {w : World} {A : Around} {R : Result → Shared → Prop} {I : Addr} {fp wr : List Addr} {G : Array GenState → Array GenState → Prop} {n : Nat} {P : Nat → Value → Prop} {St : Nat → Shared → Prop}
theorem set_turns (W : WalksS prog w A.in1 I fp wr G n P St) (a : Addr) (haf : a ∉ fp) (xs : List Str) (hn : xs.length = n) (hb : n + 1 < scanBound) (hval : ∀ i v, P i v → ∃ t, v = .str (xs.getD i Str.empty) t) :
    ∀ (k i : Nat) (s : Shared), i + k = n → St i s → s.heap.SetOf (PySem.strKind prog w) a (fun k => (ddT (xs.take i)).any (· == k)) (ddT (xs.take i)).length →
      (∀ s', Moved (a :: wr) G s s' → s'.heap.SetOf (PySem.strKind prog w) a (fun k => (ddT xs).any (· == k)) (ddT xs).length → R (.ok (.ret .none)) s') →
      codeAny (model prog w) A (.builtin "set.update.loop" ⟨[.ref a, .ref I], []⟩) R s := by
  have haw : a ∉ wr := fun h => haf (W.sub _ h)
  have stay : ∀ {s1 s2 : Shared} {S : Str → Bool} {m : Nat}, Moved wr G s1 s2 → s1.heap.SetOf (PySem.strKind prog w) a S m → s2.heap.SetOf (PySem.strKind prog w) a S m := fun hm ⟨o, es, ep, t, ho, rest⟩ => ⟨o, es, ep, t, hm.heap a _ haw ho, rest⟩
  have more : ∀ b ∈ wr, b ∈ a :: wr := fun b h => List.mem_cons_of_mem _ h
  intro k
  induction k with
  | zero =>
    intro i s hi hst hS hR
    have e : i = n := by omega
    subst e
    rw [List.take_of_length_le (Nat.le_of_eq hn)] at hS
    refine codeAny_builtin PyProof.Rows.F.entry_set_update_loop ?_
    rw [Around.under_plainId PyProof.Rows.F.plain_set_update_loop _]
    show wpAny _ A.in1 (pyNext (.ref I) >>= _) _ _ s
    exact wpAny_bind (W.done s _ _ hst fun s' hm => wpAny_pure (hR s' (hm.mono more) (stay hm hS)))
  | succ k ih =>
    intro i s hi hst hS hR
    have lt : i < n := by omega
    have ltx : i < xs.length := by omega
    refine codeAny_builtin PyProof.Rows.F.entry_set_update_loop ?_
    rw [Around.under_plainId PyProof.Rows.F.plain_set_update_loop _]
    show wpAny _ A.in1 (pyNext (.ref I) >>= _) _ _ s
    refine wpAny_bind (W.item i s _ _ lt hst fun v s' hP hst' hm => ?_)
    obtain ⟨t, rfl⟩ := hval i v hP
    have hg : xs.getD i Str.empty = xs[i] := by rw [List.getD_eq_getElem?_getD, List.getElem?_eq_getElem ltx]; rfl
    rw [hg]
    have hS' := stay hm hS
    show wpAny _ A.in1 (holding [Value.str xs[i] t] (setAdd a (.str xs[i] t)) >>= _) _ _ s'
    refine wpAny_bind (wpAny_holding ?_)
    unfold setAdd
    refine wpAny_holding (wpAny_bind ((PySem.strKind prog w).pyHash (k := xs[i]) (strKind_is _ _ _ _) ?_))
    have room : (ddT (xs.take i)).length + 1 < scanBound := by
      have h1 := ddT_le (xs.take i) []
      rw [List.length_take, List.length_nil] at h1
      unfold ddT
      omega
    refine wpAny_setAddHashed_of (knd := PySem.strKind prog w) (s := { s' with toks := s'.toks + 1 }) (strKind_is _ _ _ _) rfl hS' room fun h' sb hS2 => ?_
    have next : ddT (xs.take (i + 1)) = ddS (ddT (xs.take i)) xs[i] := by
      unfold ddT
      rw [List.take_add_one, List.getElem?_eq_getElem ltx, List.foldl_append]
      rfl
    have hSi : h'.SetOf (PySem.strKind prog w) a (fun k => (ddT (xs.take (i + 1))).any (· == k)) (ddT (xs.take (i + 1))).length := SetOf_congr hS2 (fun k' => by rw [next, ddS_any]) (by rw [next, ddS_len])
    refine wpAny_pure ⟨plainId_quiet PyProof.Rows.F.plain_set_update_loop _, ih (i + 1) _ (by omega) (W.frame _ s' _ _ hst' (Nat.le_succ _) fun b hbf o e => ?_) hSi fun s'' hm2 hS3 => hR s'' (Moved.trans W.gtrans ((hm.mono more).then_heap (Nat.le_succ _) fun b o hbw e => ?_) hm2) hS3⟩
    · rw [sb.2 b (fun z : b = a => haf (by rw [← z]; exact hbf))]; exact e
    · rw [sb.2 b (fun z : b = a => hbw (by rw [z]; exact List.mem_cons_self))]; exact e
end
section
variable {prog : Program} {w : World} {A : Around} {E : Value → Shared → Prop} {s : Shared}
theorem call_set_txts {l : Addr} {items : Array Value} {xs : List Str} {Q : Value → Shared → Prop} (hh : A.handled = none) (hl : s.heap.IsList l items) (hi : StrsAre items.toList xs) (hb : items.size + 1 < scanBound)
    (h : ∀ (h' : Heap) (tk : Nat), h'.SetOf (PySem.strKind prog w) s.heap.objs.size (fun k => (ddT xs).any (· == k)) (ddT xs).length → (∀ b o, b < s.heap.objs.size → s.heap.get? b = some o → h'.get? b = some o) → Q (.ref s.heap.objs.size) { s with heap := h', toks := tk }) :
    wpAny (model prog w) A (call (.type "set") [.ref l]) Q E s := by
  obtain ⟨c0, tl0, hmro⟩ := PySem.F.called_set.mro
  have g1 := PySem.F.called_set.made
  have g2 := PySem.F.called_set.sub
  have g3 := PySem.F.called_set.notType
  have g4 := PySem.F.called_set.canCreate
  have g5 := PySem.F.typeCall_set_1 (.ref l)
  refine wpAny_call (codeAny_of_tree (wpAny_pure ⟨Code.quiet_builtin _ (by decide +kernel), codeAny_builtin PySem.F.entry_type_call ?_⟩))
  rw [Around.under_plain (weight_type_call_type "set" [.ref l] []) rfl]
  repeat (any_goals (first | assumption | wp_step))

  refine codeAny_mono (code_set_new_1 (.ref l) (E := E) (Q₁ := fun obj s1 => ∃ led : Bool, obj = .ref s.heap.objs.size ∧ s1 = { s with heap := s.heap.push (setObj led) }) fun led => ⟨led, rfl, rfl⟩) fun r s1 hr => ?_
  cases r with
  | error e => exact hr
  | ok fl =>
    cases fl with
    | ret obj =>
      obtain ⟨led, rfl, rfl⟩ := hr
      have hS : (s.heap.push (setObj led)).get? s.heap.objs.size = some (setObj led) := Heap.get?_push_size _ rfl
      have hT : Shared.TypeIs { s with heap := s.heap.push (setObj led) } (.ref s.heap.objs.size) "set" := ⟨_, hS, rfl⟩
      have g6 := PySem.F.called_set.init.lookup
      have g7 := PySem.F.called_set.init.bind (.ref s.heap.objs.size)
      repeat (any_goals (first | assumption | wp_step))

      refine codeAny_mono (codeAny_call_builtin (R := wants (fun r s2 => r = .none ∧ ∃ h' tk, s2 = { s with heap := h', toks := tk } ∧ h'.SetOf (PySem.strKind prog w) s.heap.objs.size (fun k => (ddT xs).any (· == k)) (ddT xs).length ∧
          (∀ b o, b < s.heap.objs.size → s.heap.get? b = some o → h'.get? b = some o)) E) PySem.F.called_set.init.plain PySem.F.entry_set_init (check_set_init_1 hT ?_)) fun r2 s2 hr2 => ?_
      · have hl0 := hl
        obtain ⟨⟨oc, od, odt, os⟩, hol, hcl, nl, hdl⟩ := hl0
        simp only at hcl hdl
        subst hcl hdl
        have hlS : l < s.heap.objs.size := Heap.lt_size hol
        have hol' : (s.heap.push (setObj led)).get? l = some { cls := .type "list", dict := od, data := .seq items nl, slots := os } := Heap.get?_push_of_some _ hol
        have hl1 : (s.heap.push (setObj led)).IsList l items := ⟨_, hol', rfl, nl, rfl⟩
        have g8 := PySem.F.sub_list_set
        have g9 := PySem.F.sub_list_frozenset
        have g10 : (Value.type "list" == Value.type "dict") = false := by decide
        unfold Builtin.«set.__init__» noKeywords Builtin.Frozenset.updateFrom
        generalize hPI : pyIter = PI
        wp_walk
        subst hPI

        refine wpAny_pyIter_list hl1 (wpAny_bind (wpAny_runValue ?_))
        have hh3 : A.in1.in1.in1.handled = none := hh
        have hsz : (s.heap.push (setObj led)).objs.size = s.heap.objs.size + 1 := Heap.size_push ..
        have hneI : l ≠ (s.heap.push (setObj led)).objs.size := fun z => Nat.lt_irrefl _ (Nat.lt_trans (Nat.lt_of_le_of_lt (Nat.le_of_eq (hsz.symm.trans z.symm)) hlS) (Nat.lt_succ_self _))
        have hSf : s.heap.objs.size ∉ [(s.heap.push (setObj led)).objs.size, l] := fun hm => by
          rcases List.mem_cons.mp hm with z | hm
          · exact Nat.succ_ne_self _ (hsz.symm.trans z.symm)
          · exact Nat.lt_irrefl _ (Nat.lt_of_le_of_lt (Nat.le_of_eq (List.mem_singleton.mp hm)) hlS)
        have hlen : xs.length = items.size := by rw [← StrsAre.len_eq hi, Array.length_toList]
        refine set_turns ((Walks.list hh3 _ l hneI items).toS) s.heap.objs.size hSf xs hlen hb (fun i v hv => SS.strs_at hi i v (by rw [Array.getElem?_toList]; exact hv)) items.size 0 _ (Nat.zero_add _)
          ⟨⟨_, Heap.get?_push_size _ rfl, rfl, rfl⟩, hl1.push _⟩ ?_ ?_
        · exact SetOf_congr ((setObjOf_fresh (knd := PySem.strKind prog w) led).setOf (Heap.get?_push_of_some _ hS) (by unfold scanBound; omega)) (fun _ => rfl) rfl
        · rintro ⟨h', g', d', tk', os'⟩ hm hS'
          have eg : g' = s.gens := hm.gens
          have ed : d' = s.drawn := hm.drawn
          have eo : os' = s.os := hm.os
          subst eg ed eo
          refine wpAny_pure (wpAny_pure ⟨rfl, h', tk', rfl, hS', fun b o hbl e => hm.heap b o (fun hmem => ?_) (Heap.get?_push_of_some _ (Heap.get?_push_of_some _ e))⟩)
          rcases List.mem_cons.mp hmem with z | hmem
          · exact Nat.lt_irrefl _ (Nat.lt_of_le_of_lt (Nat.le_of_eq z.symm) hbl)
          · have e2 := (List.mem_singleton.mp hmem).trans hsz
            exact Nat.lt_irrefl _ (Nat.lt_trans (Nat.lt_of_le_of_lt (Nat.le_of_eq e2.symm) hbl) (Nat.lt_succ_self _))
      · cases r2 with
        | error e => exact hr2
        | ok fl2 =>
          cases fl2 with
          | ret r =>
            obtain ⟨rfl, h', tk, rfl, hS', hk'⟩ := hr2
            repeat (any_goals (first | assumption | wp_step))
            exact h _ _ hS' hk'
          | _ => exact hr2.elim
    | _ => exact hr.elim
end
end Mx


set_option Elab.async false
set_option linter.all false
set_option maxRecDepth 100000
set_option maxHeartbeats 2000000
namespace Ly
open PySem PySem.Spec PyProof.Rows L2 Evl
section
variable {X : Cx} {tp : TPar} {Γ : List Sl} {iter elt test : Expr} {pos p2 p3 p4 : Pos} {Z : Out} {scope : Scope} {α : Type} {as : List α} {enc : α → PyData}
def JF (as : List α) (p : α → Bool) (f : α → PyData) : List PyData → Nat → List PyData → Prop := fun _ k acc => acc = ((as.take k).filter p).map f
theorem jf_end {p : α → Bool} {f : α → PyData} {xs ds : List PyData} (h : JF as p f ds as.length xs) : xs = (as.filter p).map f := by
  unfold JF at h
  rw [h, List.take_length]
theorem take_step {α : Type} {as : List α} {i : Nat} {a : α} (e : as[i]? = some a) : as.take (i + 1) = as.take i ++ [a] := by
  rw [List.take_add_one, e, Option.toList_some]
theorem jf_step {p : α → Bool} {f : α → PyData} {ds acc : List PyData} {i : Nat} {a : α} (e : as[i]? = some a) (h : JF as p f ds i acc) :
    (p a = false → JF as p f ds (i + 1) acc) ∧ (p a = true → JF as p f ds (i + 1) (acc ++ [f a])) := by
  unfold JF at h ⊢
  subst h
  rw [take_step e, List.filter_append, List.map_append]
  refine ⟨fun q => ?_, fun q => ?_⟩
  · rw [List.filter_cons_of_neg (by rw [q]; exact Bool.false_ne_true)]
    simp
  · rw [List.filter_cons_of_pos q]
    simp
theorem jf_len {p : α → Bool} {f : α → PyData} {ds acc : List PyData} {i : Nat} (h : JF as p f ds i acc) : acc.length ≤ as.length := by
  unfold JF at h
  subst h
  rw [List.length_map]
  exact Nat.le_trans (List.length_filter_le ..) (by rw [List.length_take]; omega)
theorem map_at {f : α → PyData} {i : Nat} {d : PyData} (h : (as.map f)[i]? = some d) : ∃ a, as[i]? = some a ∧ a ∈ as ∧ d = f a := by
  rw [List.getElem?_map] at h
  cases e : as[i]? with
  | none => rw [e] at h; cases h
  | some a =>
    rw [e] at h
    cases h
    exact ⟨a, rfl, List.mem_of_getElem? e, rfl⟩
theorem hv_set1 {K : PySem.W.Frag} {B : Bs} {σ : L2.St} {G H : Hp} {i : Nat} {v : V} {d : PyData} (hv : Hv K B tp (wipeG Γ [i]) σ G H) (hd : Dq G v d) : Hv K B tp (Γ.set i (.dat d)) (σ.set i (some v)) G H := by
  have := hv.setD (i := i) hd
  unfold wipeG wipeG at this
  rwa [List.set_set] at this
/-- [f x for x in as if p x] -/
theorem lc_filt (i : Nat) {x : Str} (p : α → Bool) (f : α → PyData) (hI : I X tp Γ (.Name x p3) iter (fun ds => ds = as.map enc)) (hl : as.length < 1000000)
    (ht : ∀ d ∈ as, ∀ s H C cl fp, Td (Bk X scope s H C cl fp) tp (Γ.set i (.dat (enc d))) test (p d)) (he : ∀ d ∈ as, p d = true → ∀ s H C cl fp, Ed (Bk X scope s H C cl fp) tp (Γ.set i (.dat (enc d))) elt (f d))
    (hN : X.N.Nodup := by assumption) (hi : X.N[i]? = some x := by rfl) (hx : ∀ C cl, (compEnvC scope cl C X.env).scope.names.lookup x = some .local := by intro _ _; rfl) :
    Lc X tp Γ (.Name x p3) iter elt [test] scope [i] (fun ds => ds = as.map enc) (JF as p f) (gName i) where
  it := hI
  pg := fun s H C cl fp => pg_name hN hi (.inl (hx C cl)) (.inr (hx C cl))
  few := by exact Nat.le_refl 1
  start := fun ds _ => by unfold JF; simp
  turn := fun ds e k d acc ed hj => by
    subst e
    obtain ⟨a, ea, hm, rfl⟩ := map_at ed
    obtain ⟨j1, j2⟩ := jf_step ea hj
    refine ⟨Nat.lt_of_le_of_lt (jf_len hj) hl, Γ.set i (.dat (enc a)), fun B σ G H v Q hv hd q => q _ (hv_set1 hv hd) ?_, fun y => y = p a, fun s H C cl fp => ht a hm s H C cl fp, fun z => j1 z.symm, fun z s H C cl fp => e_mono (he a hm z.symm s H C cl fp) fun y hy => ?_⟩
    · exact wipe_set _ _ _ _ (by simp)
    · rw [hy]; exact j2 z.symm
/-- [f x for x in as] -/
theorem lc_map (i : Nat) {x : Str} (f : α → PyData) (hI : I X tp Γ (.Name x p3) iter (fun ds => ds = as.map enc)) (hl : as.length < 1000000)
    (he : ∀ d ∈ as, ∀ s H C cl fp, Ed (Bk X scope s H C cl fp) tp (Γ.set i (.dat (enc d))) elt (f d))
    (hN : X.N.Nodup := by assumption) (hi : X.N[i]? = some x := by rfl) (hx : ∀ C cl, (compEnvC scope cl C X.env).scope.names.lookup x = some .local := by intro _ _; rfl) :
    Lc X tp Γ (.Name x p3) iter elt [] scope [i] (fun ds => ds = as.map enc) (JF as (fun _ => true) f) (gName i) where
  it := hI
  pg := fun s H C cl fp => pg_name hN hi (.inl (hx C cl)) (.inr (hx C cl))
  few := Nat.zero_le 1
  start := fun ds _ => by unfold JF; simp
  turn := fun ds e k d acc ed hj => by
    subst e
    obtain ⟨a, ea, hm, rfl⟩ := map_at ed
    obtain ⟨j1, j2⟩ := jf_step ea hj
    refine ⟨Nat.lt_of_le_of_lt (jf_len hj) hl, Γ.set i (.dat (enc a)), fun B σ G H v Q hv hd q => q _ (hv_set1 hv hd) ?_, fun y => y = true, rfl, (fun z => nomatch z), fun z s H C cl fp => e_mono (he a hm s H C cl fp) fun y hy => ?_⟩
    · exact wipe_set _ _ _ _ (by simp)
    · rw [hy]; exact j2 rfl
theorem o_filt (i : Nat) {x : Str} (p : α → Bool) (f : α → PyData) (hI : I X tp Γ (.Name x p3) iter (fun ds => ds = as.map enc)) (hl : as.length < 1000000)
    (ht : ∀ d ∈ as, ∀ s H C cl fp, Td (Bk X scope s H C cl fp) tp (Γ.set i (.dat (enc d))) test (p d)) (he : ∀ d ∈ as, p d = true → ∀ s H C cl fp, Ed (Bk X scope s H C cl fp) tp (Γ.set i (.dat (enc d))) elt (f d))
    (hN : X.N.Nodup := by assumption) (hi : X.N[i]? = some x := by rfl) (hx : ∀ C cl, (compEnvC scope cl C X.env).scope.names.lookup x = some .local := by intro _ _; rfl)
    (ok : BlkOk X.N X.env.scope scope [(x, i)] := by exact blkOk_by (by rfl)) (hc : X.calm = true := by rfl) (hs : ∀ y, foldedSetIterable iter X.env y = pure y := by intro _; rfl) :
    Od X tp Γ (.ListComp elt [⟨.Name x p3, iter, [test], 0⟩] scope pos) ((as.filter p).map f) :=
  o_mono (o_lc (own := [(x, i)]) (lc_filt i p f hI hl ht he hN hi hx) ok hc hN hs) fun xs ⟨ds, e, hj⟩ => by subst e; rw [List.length_map] at hj; exact jf_end hj
theorem o_map (i : Nat) {x : Str} (f : α → PyData) (hI : I X tp Γ (.Name x p3) iter (fun ds => ds = as.map enc)) (hl : as.length < 1000000)
    (he : ∀ d ∈ as, ∀ s H C cl fp, Ed (Bk X scope s H C cl fp) tp (Γ.set i (.dat (enc d))) elt (f d))
    (hN : X.N.Nodup := by assumption) (hi : X.N[i]? = some x := by rfl) (hx : ∀ C cl, (compEnvC scope cl C X.env).scope.names.lookup x = some .local := by intro _ _; rfl)
    (ok : BlkOk X.N X.env.scope scope [(x, i)] := by exact blkOk_by (by rfl)) (hc : X.calm = true := by rfl) (hs : ∀ y, foldedSetIterable iter X.env y = pure y := by intro _; rfl) :
    Od X tp Γ (.ListComp elt [⟨.Name x p3, iter, [], 0⟩] scope pos) (as.map f) :=
  o_mono (o_lc (own := [(x, i)]) (lc_map i f hI hl he hN hi hx) ok hc hN hs) fun xs ⟨ds, e, hj⟩ => by
    subst e
    rw [List.length_map] at hj
    rw [jf_end hj, List.filter_eq_self.mpr (fun _ _ => rfl)]
/-- [f x, y for x, y in as if p] -/
theorem lc_filt2 (i j : Nat) {x y : Str} {px py pt : Pos} {kt : Nat} (e1 e2 : α → PyData) (p : α → Bool) (f : α → PyData) (hI : I X tp Γ (.Tuple [.Name x px, .Name y py] kt pt) iter (fun ds => ds = as.map fun a => .tuple [e1 a, e2 a])) (hl : as.length < 1000000)
    (ht : ∀ d ∈ as, ∀ s H C cl fp, Td (Bk X scope s H C cl fp) tp ((Γ.set i (.dat (e1 d))).set j (.dat (e2 d))) test (p d)) (he : ∀ d ∈ as, p d = true → ∀ s H C cl fp, Ed (Bk X scope s H C cl fp) tp ((Γ.set i (.dat (e1 d))).set j (.dat (e2 d))) elt (f d))
    (hij : i ≠ j := by decide) (hc : X.calm = true := by rfl) (hN : X.N.Nodup := by assumption) (hi : X.N[i]? = some x := by rfl) (hj : X.N[j]? = some y := by rfl) (hx : ∀ C cl, (compEnvC scope cl C X.env).scope.names.lookup x = some .local := by intro _ _; rfl) (hy : ∀ C cl, (compEnvC scope cl C X.env).scope.names.lookup y = some .local := by intro _ _; rfl) :
    Lc X tp Γ (.Tuple [.Name x px, .Name y py] kt pt) iter elt [test] scope [i, j] (fun ds => ds = as.map fun a => .tuple [e1 a, e2 a]) (JF as p f) (gTup X.K 2 (gCons (gName i) (gCons (gName j) gNil))) where
  it := hI
  pg := fun s H C cl fp => pg_tup hc (pgs_cons (pg_name hN hi (.inl (hx C cl)) (.inr (hx C cl))) (pgs_cons (pg_name hN hj (.inl (hy C cl)) (.inr (hy C cl))) pgs_nil)) rfl rfl
  few := by exact Nat.le_refl 1
  start := fun ds _ => by unfold JF; simp
  turn := fun ds e k d acc ed hj => by
    subst e
    obtain ⟨a, ea, hm, rfl⟩ := map_at ed
    obtain ⟨j1, j2⟩ := jf_step ea hj
    refine ⟨Nat.lt_of_le_of_lt (jf_len hj) hl, (Γ.set i (.dat (e1 a))).set j (.dat (e2 a)), fun B σ G H v Q hv hd q => ?_, fun y => y = p a, fun s H C cl fp => ht a hm s H C cl fp, fun z => j1 z.symm, fun z s H C cl fp => e_mono (he a hm z.symm s H C cl fp) fun y hy => ?_⟩
    · cases hd with
      | tup s1 dd =>
        cases dd with
        | cons h1 h2 =>
          cases h2 with
          | cons h2 h3 =>
            cases h3
            refine ⟨_, _, rfl, SqT.of (hv.sub _ _ s1), rfl, _, _, rfl, _, _, rfl, rfl, q _ ?_ (by rw [wipe_set _ _ _ _ (by simp), wipe_set _ _ _ _ (by simp)])⟩
            have := (hv.setD (i := i) h1).setD (i := j) h2
            unfold wipeG wipeG wipeG at this
            rwa [List.set_set, List.set_comm _ _ hij, List.set_set, List.set_comm _ _ (Ne.symm hij)] at this
    · rw [hy]; exact j2 z.symm
theorem o_filt2 (i j : Nat) {x y : Str} {px py pt : Pos} {kt : Nat} (e1 e2 : α → PyData) (p : α → Bool) (f : α → PyData) (hI : I X tp Γ (.Tuple [.Name x px, .Name y py] kt pt) iter (fun ds => ds = as.map fun a => .tuple [e1 a, e2 a])) (hl : as.length < 1000000)
    (ht : ∀ d ∈ as, ∀ s H C cl fp, Td (Bk X scope s H C cl fp) tp ((Γ.set i (.dat (e1 d))).set j (.dat (e2 d))) test (p d)) (he : ∀ d ∈ as, p d = true → ∀ s H C cl fp, Ed (Bk X scope s H C cl fp) tp ((Γ.set i (.dat (e1 d))).set j (.dat (e2 d))) elt (f d))
    (hij : i ≠ j := by decide) (hc : X.calm = true := by rfl) (hN : X.N.Nodup := by assumption) (hi : X.N[i]? = some x := by rfl) (hj : X.N[j]? = some y := by rfl) (hx : ∀ C cl, (compEnvC scope cl C X.env).scope.names.lookup x = some .local := by intro _ _; rfl) (hy : ∀ C cl, (compEnvC scope cl C X.env).scope.names.lookup y = some .local := by intro _ _; rfl)
    (ok : BlkOk X.N X.env.scope scope [(x, i), (y, j)] := by exact blkOk_by (by rfl)) (hs : ∀ y, foldedSetIterable iter X.env y = pure y := by intro _; rfl) :
    Od X tp Γ (.ListComp elt [⟨.Tuple [.Name x px, .Name y py] kt pt, iter, [test], 0⟩] scope pos) ((as.filter p).map f) :=
  o_mono (o_lc (own := [(x, i), (y, j)]) (lc_filt2 i j e1 e2 p f hI hl ht he hij hc hN hi hj hx hy) ok hc hN hs) fun xs ⟨ds, e, hj⟩ => by subst e; rw [List.length_map] at hj; exact jf_end hj
/-- a loop over as -/
theorem s_forM (as : List α) (enc : α → PyData) {tg : Expr} {body : List Stmt} {g : TG} {f : PyData → List Sl → List Sl → Prop} {js : List Nat} (hi : I X tp Γ tg iter (fun ds => ds = as.map enc)) (ht : Tg X tp tg g f js) (Pv : Nat → List Sl → Prop) (h0 : Pv 0 Γ)
    (hb : ∀ k a, as[k]? = some a → a ∈ as → ∀ Γ', Pv k Γ' → ∃ Γ'', f (enc a) Γ' Γ'' ∧ S X tp Γ'' body { nx := Pv (k + 1), ct := Pv (k + 1), bk := Z.nx, rt := Z.rt }) (hd : ∀ Γ', Pv as.length Γ' → Z.nx Γ')
    (hp : PassesOwn (model X.prog X.w) X.A X.env X.xe := by exact PassesOwn.never) (hc : X.calm = true := by rfl) (hs : ∀ x, foldedSetIterable iter X.env x = pure x := by intro _; rfl) : S1 X tp Γ (.For tg iter body [] pos) Z :=
  s_for hi ht (fun _ => Pv) (fun _ _ => h0) (fun ds e k d Γ' ed hpv => by
    subst e
    obtain ⟨a, ea, hm, rfl⟩ := map_at ed
    exact hb k a ea hm Γ' hpv) (fun ds e Γ' hpv => hd Γ' (by subst e; rwa [List.length_map] at hpv)) hp hc hs
end
end Ly


set_option Elab.async false
set_option linter.all false
set_option maxRecDepth 100000
set_option maxHeartbeats 3200000
namespace Mx
open PySem PySem.Spec PyProof.Rows
/-! enumerate(v), v told by the iterator that it begins -/
theorem enum_new1 {v : Value} {o : Obj} {H : Heap → Prop} (B : Begins v o H) :
    Meets (Builtin.«enumerate.__new__» ⟨[.type "enumerate", v], []⟩) (fun _ R s => H s.heap ∧
      R (.ok (.ret (.ref (s.heap.objs.size + 1)))) { s with heap := (s.heap.push o).push { cls := .type "enumerate", data := .fields #[.none, .bool false, .ref s.heap.objs.size, rawInt 0, .none, .none] } }) :=
  .of_wp fun prog w A R s hyp => by
    obtain ⟨hp, g, d, tk, os⟩ := s
    obtain ⟨begun, h⟩ := hyp
    have hsub := sub_enumerate
    have hz : (hp.push o).objs.size = hp.objs.size + 1 := Heap.size_push ..
    have turn : ∀ {A' : Around} {E : Value → Shared → Prop} {Q : Value → Shared → Prop}, Q (.ref hp.objs.size) ⟨hp.push o, g, d, tk, os⟩ → wpAny (model prog w) A' (pyIter v) Q E ⟨hp, g, d, tk, os⟩ := fun q => B.iter prog w _ _ ⟨hp, g, d, tk, os⟩ _ begun q
    rw [← hz] at h
    wp_walk using turn
    refine wpAny_stack_any fun st => wpAny_pure ?_
    split
    · rename_i c _ _ _ _ _
      cases (c == Value.type "enumerate") <;> (wp_walk using turn; exact ⟨_, rfl, h⟩)
    · wp_walk using turn
      exact ⟨_, rfl, h⟩
theorem enum_call1 {prog : Program} {w : World} {A : Around} {E : Value → Shared → Prop} {s : Shared} {v : Value} {o : Obj} {H : Heap → Prop} {Q : Value → Shared → Prop} (B : Begins v o H) (begun : H s.heap)
    (h : ∀ h', IsEnum h' (s.heap.objs.size + 1) s.heap.objs.size 0 .none → h'.get? s.heap.objs.size = some o → (∀ b o, s.heap.get? b = some o → h'.get? b = some o) → Q (.ref (s.heap.objs.size + 1)) { s with heap := h' }) :
    wpAny (model prog w) A (call (.type "enumerate") [v]) Q E s := by
  refine callType_new F.called_enumerate (by decide) (F.typeCall_enumerate_1 _) (F.newCall_enumerate_1 _) (fun obj => F.args_object_init_2 obj _) F.entry_enumerate_new (enum_new1 B) ⟨begun, ?_⟩
  have hz : (s.heap.push o).objs.size = s.heap.objs.size + 1 := Heap.size_push ..
  have he := Heap.get?_push_size (s.heap.push o) (o := { cls := .type "enumerate", data := .fields #[.none, .bool false, .ref s.heap.objs.size, rawInt 0, .none, .none] }) rfl
  rw [hz] at he
  exact ⟨⟨_, he, rfl⟩, h _ he (Heap.get?_push_of_some _ (Heap.get?_push_size _ B.free)) fun b o x => Heap.get?_push_of_some _ (Heap.get?_push_of_some _ x)⟩
end Mx
namespace Ly
open PySem PySem.Spec PyProof.Rows L2 Evl
/-- the tuple at a, each item in a new pair with its number -/
def Itet (K : PySem.W.Frag) (a : Addr) : It :=
  ⟨fun i H => ∃ (xs : List V) (x : V), SqT K H a xs ∧ xs[i]? = some x, fun i H v H' => ∃ T x, v = .ref T ∧ H T = none ∧ H' = upd H T (.tup [.int (i : Nat), x]) ∧ ∀ xs, SqT K H a xs → xs[i]? = some x, fun i H => ∃ xs : List V, SqT K H a xs ∧ xs.length = i⟩
theorem turn_enumT {P : Program} {w : World} {K : PySem.W.Frag} {elts : List Expr} {kk : Nat} {tpos : Pos} (a e it : Addr) :
    Turn P w K (.Tuple elts kk tpos) (Itet K a) [e, it] e (fun i h => (∃ old, IsEnum h e it ((i : Nat) : Int) old) ∧ h.IsTupleIter it a i ∧ e ≠ it) where
  mem := List.mem_cons_self ..
  obj := fun i h st b hb => by
    obtain ⟨⟨old, he⟩, ⟨o, ho, hc, hd⟩, _⟩ := st
    rcases (by simpa using hb : b = e ∨ b = it) with z | z
    · subst z; exact ⟨_, he, fun v q => nomatch q⟩
    · subst z; exact ⟨o, ho, fun v q => by rw [hd] at q; cases q⟩
  keep := fun i h h' st k => ⟨let ⟨old, he⟩ := st.1; ⟨old, k e (by simp) _ he⟩, st.2.1.at fun o q => k it (by simp) o q, st.2.2⟩
  item := by
    intro X hP hw hK hc i pins s σ H E I hf st hg
    subst hP hw hK
    obtain ⟨⟨old, he⟩, hit, hne⟩ := st
    obtain ⟨xs, x, hq, hx⟩ := hg
    obtain ⟨its, rv, p, hz⟩ := I.tuple hq
    obtain ⟨u, hu, ru⟩ := rv.get hx
    have hel : e < s.heap.objs.size := Heap.lt_size he
    have hil : it < s.heap.objs.size := by obtain ⟨_, q, _⟩ := hit; exact Heap.lt_size q
    have pt : s.heap.IsTuple a its.toArray := p
    have hal : a ≠ it := by
      obtain ⟨o1, q1, c1, _⟩ := hit
      obtain ⟨o2, q2, c2, _⟩ := pt
      intro z
      rw [z] at q2
      rw [q1] at q2
      cases q2
      rw [c1] at c2
      exact absurd c2 (by decide)
    have hae : e ∉ [it, a] := fun hm => by
      rcases (by simpa using hm : e = it ∨ e = a) with z | z
      · exact hne z
      · obtain ⟨o2, q2, c2, _⟩ := pt
        rw [← z] at q2
        have he' : s.heap.get? e = some _ := he
        rw [he'] at q2
        cases q2
        have c3 : Value.type "enumerate" = Value.type "tuple" := c2
        exact absurd c3 (by decide)
    have li : i < its.toArray.size := by
      rw [List.size_toArray]
      exact (List.getElem?_eq_some_iff.mp hu).1
    refine wpAny_pyNext_enum_itemD (Draws.tuple (prog := X.prog) (w := X.w) (A := X.A.in1) (I.ok.hd hc) it a hal its.toArray) he ⟨hit, pt⟩ li hne hae fun y h' tk hy ho hst hT hsz hk => ?_
    have ey : y = u := by
      have hy' : its.toArray[i]? = some y := hy
      rw [List.getElem?_toArray, hu] at hy'
      exact (Option.some.inj hy').symm
    subst ey
    refine ⟨_, rfl, wpAny_letOwnedTupleGo_enum (s := { s with heap := h', toks := tk + 1 }) ho fun h'' he' sb => ?_⟩
    have hT2 : h''.get? s.heap.objs.size = some { cls := .type "tuple", data := .seq #[.int i tk, y] } := (sb.2 _ (Nat.ne_of_gt hel)).trans hT
    have new : ObjOk X.prog X.w (upd H s.heap.objs.size (.tup [.int (i : Nat), x])) h'' s.heap.objs.size (.tup [.int (i : Nat), x]) :=
      ⟨by show 2 ≤ sizeLine; decide, [.int i tk, y], .cons ⟨_, rfl⟩ (.cons ru .nil), ⟨_, hT2, rfl, _, rfl⟩⟩
    have I1 : Inv X pins σ (upd H s.heap.objs.size (.tup [.int (i : Nat), x])) { s with heap := h'', toks := tk + 1 } :=
      I.turnedNew (ch := [e, it]) (fun b ob hb q => (sb.2 b (fun z => hb (by simp [z]))).trans (hk b ob (fun z => hb (by simp [z])) (fun z => hb (by simp [z])) q)) hf (Nat.le_refl _) new
    refine ⟨.ref s.heap.objs.size, _, I1, rfl, ⟨_, x, rfl, I.hok.fresh (Nat.le_refl _), rfl, fun ys hy => by rw [I.tuple_inj hy hq]; exact hx⟩, ⟨⟨y, ?_⟩, hst.1.at fun o q => (sb.2 it (Ne.symm hne)).trans q, hne⟩, fun b hb => ?_⟩
    · rw [show ((i + 1 : Nat) : Int) = (i : Int) + 1 by omega]; exact he'
    · have hb' : b < s.heap.objs.size := by
        rcases (by simpa using hb : b = e ∨ b = it) with z | z
        · rw [z]; exact hel
        · rw [z]; exact hil
      rw [upd_ne (Nat.ne_of_lt hb')]
      exact (hf b hb).1
  done := by
    intro X hP hw hK hc i pins s σ H E I hf st hg
    subst hP hw hK
    obtain ⟨⟨old, he⟩, hit, hne⟩ := st
    obtain ⟨xs, hq, hx⟩ := hg
    obtain ⟨its, rv, p, hz⟩ := I.tuple hq
    obtain ⟨f0, f1, f2, f3, f4, f5⟩ := hf it (by simp)
    have hl := rv.length
    have pt : s.heap.IsTuple a its.toArray := p
    have hal : a ≠ it := by
      obtain ⟨o1, q1, c1, _⟩ := hit
      obtain ⟨o2, q2, c2, _⟩ := pt
      intro z
      rw [z] at q2
      rw [q1] at q2
      cases q2
      rw [c1] at c2
      exact absurd c2 (by decide)
    have ei : i = its.toArray.size := by rw [List.size_toArray]; omega
    subst ei
    exact wpAny_pyNext_enum_endD (Draws.tuple (prog := X.prog) (w := X.w) (A := X.A.in1) (I.ok.hd hc) it a hal its.toArray) he ⟨hit, pt⟩ fun h' eb => ⟨rfl, I.turned (t' := s.toks) (fun b o hb q => eb b o hb q) f0 f1 f3 f4 f5⟩
  self := fun A i s Q E st h => let ⟨⟨_, he⟩, _⟩ := st; wpAny_pyIter_enum he h
def iEnumT (K : PySem.W.Frag) (ta : TA) : TI := fun σ H R => ta σ H fun vs H1 => ∃ a xs, vs = [.ref a] ∧ SqT K H1 a xs ∧ R (Itet K a) H1
section
variable {X : Cx} {tp : TPar} {Γ : List Sl} {e : Expr}
theorem pi_enumT {ta : TA} {p pos tpos : Pos} {elts : List Expr} {kk : Nat} (hg : Gl X "enumerate") (hm : X.mg "enumerate" = none) (ha : PA X [e] ta) (hs : starEach [e] X.env = [(false, eval e X.env)] := by rfl) :
    PI X (.Tuple elts kk tpos) (.Call (.Name "enumerate" p) [e] [] pos) (iEnumT X.K ta) := by
  refine ⟨fun pins s σ H R I h => Call_ (ld_blt I hg hm boot_enumerate (PyProof.Rows.callWith_type1 (thn (ha.run pos pins s σ H _ I h) fun us s1 q1 => ?_) hs rfl))⟩
  obtain ⟨vs, H1, I1, r1, a, xs, ex, hq, q⟩ := q1
  subst ex
  obtain rfl := Vals.ref1 r1
  obtain ⟨its, rv, p', hz⟩ := I1.tuple hq
  refine Mx.enum_call1 (begins_tuple a its.toArray) (show s1.heap.IsTuple a its.toArray from p') fun h' he hit hk => wpAny_pyIter_enum he ?_
  have I2 : Inv X pins σ H1 { s1 with heap := h' } := I1.kept (t' := s1.toks) hk
  refine ⟨s1.heap.objs.size + 1, [s1.heap.objs.size + 1, s1.heap.objs.size], _, _, H1, rfl, I2, turn_enumT a (s1.heap.objs.size + 1) s1.heap.objs.size, ⟨⟨.none, he⟩, ⟨_, hit, rfl, rfl⟩, Nat.succ_ne_self _⟩, fun b hb => ?_, q⟩
  have hle : s1.heap.objs.size ≤ b := by
    rcases (by simpa using hb : b = s1.heap.objs.size + 1 ∨ b = s1.heap.objs.size) with z | z
    · rw [z]; exact Nat.le_add_right _ _
    · rw [z]; exact Nat.le_refl _
  exact I1.fpOk hle (I1.hok.fresh hle)
def enumD (ds : List PyData) : List PyData := (List.range ds.length).map fun (k : Nat) => .tuple [.int (k : Int), ds.getD k .none]
theorem it_enumT {K : PySem.W.Frag} {G : Hp} {p : Addr} {vs : List V} {ds : List PyData} (hs : G p = some (.tup vs)) (hd : DqAll G vs ds) : DataIt tp (Itet K p) (enumD ds) G where
  go := fun i H ex hi => by
    unfold enumD at hi
    rw [List.length_map, List.length_range, ← hd.length] at hi
    exact ⟨vs, vs[i], SqT.of (ex _ _ hs), List.getElem?_eq_getElem hi⟩
  stop := fun H ex => by
    refine ⟨vs, SqT.of (ex _ _ hs), ?_⟩
    unfold enumD
    rw [List.length_map, List.length_range, hd.length]
  yld := fun i H x H' G1 e1 e2 hi hy => by
    obtain ⟨T, y, rfl, hT, rfl, hx⟩ := hy
    have hi' : i < ds.length := by
      unfold enumD at hi
      rwa [List.length_map, List.length_range] at hi
    obtain ⟨v, ev, hv⟩ := hd.get (List.getElem?_eq_getElem hi')
    have ey := hx vs (SqT.of (e2 _ _ (e1 _ _ hs)))
    rw [ev] at ey
    cases ey
    have gT : G1 T = none := fresh_back e2 hT
    refine ⟨.tuple [.int (i : Int), ds[i]], upd G1 T (.tup [.int (i : Nat), y]), ?_, .tup upd_same (.cons (.int _) (.cons (Dq.ex hv (e1.trans (Ex.new gT))) .nil)), Adv.new e2 hT⟩
    unfold enumD
    rw [List.getElem?_map, List.getElem?_range hi']
    show some (PyData.tuple [.int (i : Int), ds.getD i .none]) = _
    rw [List.getD_eq_getElem?_getD, List.getElem?_eq_getElem hi']
    rfl
theorem i_enumT {p pos tpos : Pos} {elts : List Expr} {kk : Nat} {ds : List PyData} (hm : X.mg "enumerate" = none) (h : Ed X tp Γ e (.tuple ds)) (hg : Gl X "enumerate" := by rfl) (he : starEach [e] X.env = (false, eval e X.env) :: starEach [] X.env := by rfl) (hs : starEach [e] X.env = [(false, eval e X.env)] := by rfl) :
    I X tp Γ (.Tuple elts kk tpos) (.Call (.Name "enumerate" p) [e] [] pos) (fun es => es = enumD ds) :=
  i_of (pi_enumT hg hm pa_w hs) fun B σ G H hv R r => a_cons h a_nil he B σ G H hv _ fun vs G2 H2 hd a => by
    cases hd with
    | cons h1 h2 =>
      cases h2
      cases h1 with
      | tup s1 d1 => exact ⟨_, _, rfl, SqT.of (a.sub _ _ s1), r _ _ G2 H2 rfl a (it_enumT s1 d1)⟩
/-! len(set([a, b, ..])) -/
theorem pe_lenSetT {a : Expr} {ta : TE} {p p2 q pos : Pos} (hc : X.calm = true) (hg : Gl X "len") (hm : X.mg "len" = none) (hg2 : Gl X "set") (hm2 : X.mg "set" = none) (ha : PE X a ta) (na : starEach [a] X.env = (false, eval a X.env) :: starEach [] X.env := by rfl) :
    PE X (.Call (.Name "len" p) [.Call (.Name "set" p2) [a] [] q] [] pos) (fun σ H Q => ta σ H fun x H1 => ∃ (l : Addr) (xs : List Str), x = .ref l ∧ SqL X.K H1 l (xs.map V.str) ∧ xs.length < 1000 ∧ Q (.int (Mx.ddT xs).length) H1) := by
  refine ⟨fun pins s σ H Q I h => Call_ (ld_blt I hg hm boot_len (PyProof.Rows.callWith_builtin1 (PyProof.Rows.args_cons ?_ rfl) rfl rfl))⟩
  refine Call_ (ld_blt I hg2 hm2 boot_set (PyProof.Rows.callWith_type1 (PyProof.Rows.args_cons (thn (ha.run pins s σ H _ I h) fun v s1 q1 => PyProof.Rows.args_nil ?_) na) na rfl))
  obtain ⟨x, H1, I1, r1, l, xs, rfl, hq, h1, q1⟩ := q1
  cases r1
  obtain ⟨its, r, pl, hz⟩ := I1.list hq
  have hl : its.toArray.size = xs.length := by rw [List.size_toArray, ← r.length, List.length_map]
  refine Mx.call_set_txts (I1.ok.hd hc) pl.isList (by simpa using strsAre_of r) (by unfold scanBound; omega) fun h' tk hS hk => ?_
  refine PyProof.Rows.args_nil ?_
  obtain ⟨o, es, ep, t, ho, hex, hd, _, _, _, hf, hn⟩ := hS
  have I2 : Inv X pins σ H1 { s1 with heap := h', toks := tk } := I1.kept fun b o e => hk b o (Heap.lt_size e) e
  have hle := Mx.ddT_le xs []
  rw [List.length_nil] at hle
  have hle2 : (Mx.ddT xs).length ≤ 0 + xs.length := hle
  refine call_len_set ho hex hd hf (by rw [hn] <;> omega) ⟨.int (Mx.ddT xs).length, H1, I2.tok _, ⟨_, by rw [hn]⟩, q1⟩
theorem e_lenSet {a : Expr} {p p2 q pos : Pos} {xs : List Str} (hc : X.calm = true) (hm : X.mg "len" = none) (hm2 : X.mg "set" = none) (h : Od X tp Γ a (xs.map .str)) (hl : xs.length < 1000) (hg : Gl X "len" := by rfl) (hg2 : Gl X "set" := by rfl) (na : starEach [a] X.env = (false, eval a X.env) :: starEach [] X.env := by rfl) :
    Ed X tp Γ (.Call (.Name "len" p) [.Call (.Name "set" p2) [a] [] q] [] pos) (.int (Mx.ddT xs).length) :=
  e_of (pe_lenSetT hc hg hm hg2 hm2 pe_w na) fun B σ G H hv Q q => h B σ G H hv _ fun p vs ys G2 H2 e n g hh hd a => by
    subst e
    rw [hd.strs] at hh
    exact ⟨p, xs, rfl, SqL.of hh, hl, q _ _ G2 H2 rfl (.int _) a⟩
end
end Ly


set_option Elab.async false
set_option linter.all false
set_option maxRecDepth 100000
set_option maxHeartbeats 3200000
namespace Mx
open PySem PySem.Spec PyProof.Rows
section
variable {prog : Program} {w : World} {A : Around} {E : Value → Shared → Prop} {s : Shared}
/-- a tuple's items, taken into a list -/
theorem collect_tup {l : Addr} {vs : List Value} {Q : List Value → Shared → Prop} (hl : s.heap.IsTuple l vs.toArray) (hsz : vs.length ≤ sizeLine)
    (h : Q vs { s with heap := (s.heap.push (seqObj "list" #[] 0)).update s.heap.objs.size (Obj.mapSeq (· ++ vs.toArray)) }) : wpAny (model prog w) A (collect (.ref l)) Q E s := by
  obtain ⟨o, ho, hc, n, hd⟩ := id hl
  unfold collect
  refine wpAny_bind (wpAny_runValue (codeAny_builtin entry_proto_collect' ?_))
  show wpAny _ _ (do again (.builtin "list.__iadd__" ⟨[← newList [], .ref l], []⟩)) _ _ s
  refine wpAny_bind (wpAny_newList (wpAny_pure ⟨Code.quiet_builtin _ (by decide +kernel), codeAny_builtin entry_list_iadd' ?_⟩))
  show wpAny _ _ (Builtin.List.listExtendWith _ _ _) _ _ { s with heap := s.heap.push (seqObj "list" #[] 0) }
  unfold Builtin.List.listExtendWith
  have old : (s.heap.push (seqObj "list" #[] 0)).get? l = some o := Heap.get?_push_of_some _ ho
  refine wpAny_bind (wpAny_typeOf (T := "tuple") ⟨o, old, hc⟩ ?_)
  rw [if_pos (by rw [show (Value.type "tuple" == Value.type "tuple") = true from rfl, Bool.or_true])]
  refine wpAny_bind (listItems_at old hd (wpAny_bind (listItems_at (xs := #[]) (n := 0) (Heap.get?_push_size _ rfl) rfl ?_)))
  rw [if_neg (by simp)]
  refine wpAny_bind (listUpdate_at (xs := #[]) (n := 0) (Heap.get?_push_size _ rfl) rfl (wpAny_pure ?_) (Nat.zero_le _) (by show (#[] ++ vs.toArray).size ≤ sizeLine + 1; simp only [Array.size_append, List.size_toArray, List.length_nil]; omega))
  refine wpAny_bind (wpAny_load (get?_update_seq (Heap.get?_push_size _ rfl) _) ?_)
  show wpAny _ _ (pure ((#[] : Array Value) ++ vs.toArray).toList) Q E _
  rw [show ((#[] : Array Value) ++ vs.toArray).toList = vs by simp]
  exact wpAny_pure h
theorem sorted_tupI {l : Addr} {vs : List Value} {ns : List Int} {Q : Value → Shared → Prop} (hl : s.heap.IsTuple l vs.toArray) (hI : IntsAre vs ns) (h64 : vs.length < 64)
    (h : ∀ (out : Array Value) (ns' : List Int), IntsAre out.toList ns' → ns'.Perm ns → ns'.Pairwise (· ≤ ·) → Q (.ref (s.heap.objs.size + 1)) { s with heap := sortedAll s.heap vs out }) :
    wpAny (model prog w) A (call (.builtin "sorted") [.ref l]) Q E s := by
  refine Calls.call_function_entry kind_sorted plain_sorted entry_sorted (args_sorted1 _) ?_
  unfold Builtin.«sorted»
  refine wpAny_bind (m := checkCount "sorted" 1 1 _) (wpAny_pure (wpAny_bind (collect_tup hl (Nat.le_trans (Nat.le_of_lt h64) (by decide)) (wpAny_bind (wpAny_newList ?_)))))
  have hsz : ((s.heap.push (seqObj "list" #[] 0)).update s.heap.objs.size (Obj.mapSeq (· ++ vs.toArray))).objs.size = s.heap.objs.size + 1 := by
    rw [Heap.size_update, size_push']
  have new : (((s.heap.push (seqObj "list" #[] 0)).update s.heap.objs.size (Obj.mapSeq (· ++ vs.toArray))).push (seqObj "list" vs.toArray 0)).get? (s.heap.objs.size + 1) = some (seqObj "list" vs.toArray 0) := by
    rw [← hsz]; exact Heap.get?_push_size _ rfl
  show wpAny _ _ _ _ _ { s with heap := ((s.heap.push (seqObj "list" #[] 0)).update s.heap.objs.size (Obj.mapSeq (· ++ vs.toArray))).push (seqObj "list" vs.toArray 0) }
  rw [hsz]
  refine wpAny_bind (wpAny_holding (wpAny_call_entry slot_list_sort ⟨_, new, rfl⟩ entry_list_sort (list_sort_tree new hI h64 fun out ns' a1 a2 a3 => ⟨_, rfl, wpAny_pure ⟨_, rfl, h out ns' a1 a2 a3⟩⟩) (args_list_sort _)))
end
end Mx
namespace Ly
open PySem PySem.Spec PyProof.Rows L2 Evl
theorem two_sorted {i j : Int} {ns : List Int} (h : ns.Perm [i, j]) (s : ns.Pairwise (· ≤ ·)) : ns = [min i j, max i j] := by
  have hl := h.length_eq
  match ns, hl with
  | [a, b], _ =>
    have ma := h.mem_iff (a := a)
    have mb := h.mem_iff (a := b)
    have mi := h.mem_iff (a := i)
    have mj := h.mem_iff (a := j)
    simp only [List.mem_cons, List.not_mem_nil, or_false, true_or, or_true, true_iff, iff_true] at ma mb mi mj
    have hab : a ≤ b := by
      cases s with
      | cons h1 _ => exact h1 b (List.mem_singleton.mpr rfl)
    congr 1
    · omega
    · congr 1
      omega
section
variable {X : Cx} {tp : TPar} {Γ : List Sl} {e : Expr} {pos p2 : Pos}
theorem cr_sortedT2 : CallR X (.builtin "sorted") (fun xs H Q => ∃ a ns, xs = [.ref a] ∧ SqT X.K H a (ns.map V.int) ∧ ns.length < 64 ∧ ∀ (ns' : List Int) (p : Addr), ns'.Perm ns → ns'.Pairwise (· ≤ ·) → H p = none → Q (.ref p) (upd H p (.lst (ns'.map V.int)))) := by
  rintro pins s σ H vs us Q I r ⟨a, ns, rfl, hs, h64, q⟩
  obtain ⟨its, rv, hl, _⟩ := I.tuple hs
  rw [Vals.ref1 r]
  have hi := rv.ints
  refine Mx.sorted_tupI (show s.heap.IsTuple a its.toArray from hl) hi (by rw [hi.length]; exact h64) fun out ns' h1 h2 h3 => ?_
  obtain ⟨ep, he'⟩ := PyProof.Rows.sortedAll_at s.heap its out
  have few : (ns'.map V.int).length ≤ sizeLine := by rw [List.length_map, h2.length_eq]; exact small64 h64
  exact ⟨.ref _, upd H (s.heap.objs.size + 1) (.lst (ns'.map V.int)), I.laid (t' := s.toks) (fun _ _ => PyProof.Rows.sortedAll_old) (Nat.le_succ _) ⟨few, out.toList, ep, vals_of_ints h1, he'⟩, rfl, q ns' _ h2 h3 (I.hok.fresh (Nat.le_succ _))⟩
theorem ints_dq {G : Hp} : ∀ ns : List Int, DqAll G (ns.map V.int) (ns.map PyData.int)
  | [] => .nil
  | n :: ns => .cons (.int n) (ints_dq ns)
/-- sorted of a pair of ints -/
theorem o_sortT2 {i j : Int} (hm : X.mg "sorted" = none) (h : Ed X tp Γ e (.tuple [.int i, .int j]))
    (hg : Gl X "sorted" := by rfl) (he : starEach [e] X.env = (false, eval e X.env) :: starEach [] X.env := by rfl) (hpl : (backTo pos (starEach [] X.env)).any (·.1) = false := by rfl) :
    Od X tp Γ (.Call (.Name "sorted" p2) [e] [] pos) [.int (min i j), .int (max i j)] :=
  o_blt cr_sortedT2 hm (by decide +kernel) (a_cons h a_nil he) (fun vs G H hs hd Q q => by
    cases hd with
    | cons h1 h2 =>
      cases h2
      cases h1 with
      | tup s1 d1 =>
        have ev := DqAll.ints (ns := [i, j]) d1
        subst ev
        refine ⟨_, [i, j], rfl, SqT.of (hs _ _ s1), show 2 < 64 by decide, fun ns' p hp hs' hn => ?_⟩
        rw [two_sorted hp hs']
        exact q p _ _ G _ rfl hn (fresh_back hs hn) upd_same (ints_dq [min i j, max i j]) (Adv.hid hs hn)) hg (by decide) (by decide) he hpl
theorem o_sortL2 {i j : Int} (hm : X.mg "sorted" = none) (h : Ed X tp Γ e (.list [.int i, .int j]))
    (hg : Gl X "sorted" := by rfl) (he : starEach [e] X.env = (false, eval e X.env) :: starEach [] X.env := by rfl) (hpl : (backTo pos (starEach [] X.env)).any (·.1) = false := by rfl) :
    Od X tp Γ (.Call (.Name "sorted" p2) [e] [] pos) [.int (min i j), .int (max i j)] :=
  o_blt cr_sorted hm (by decide +kernel) (a_cons h a_nil he) (fun vs G H hs hd Q q => by
    cases hd with
    | cons h1 h2 =>
      cases h2
      cases h1 with
      | lst s1 d1 =>
        have ev := DqAll.ints (ns := [i, j]) d1
        subst ev
        refine ⟨_, [i, j], rfl, SqL.of (hs _ _ s1), show 2 < 64 by decide, fun ns' p hp hs' hn => ?_⟩
        rw [two_sorted hp hs']
        exact q p _ _ G _ rfl hn (fresh_back hs hn) upd_same (ints_dq [min i j, max i j]) (Adv.hid hs hn)) hg (by decide) (by decide) he hpl
end
end Ly


set_option Elab.async false
set_option linter.all false
set_option maxRecDepth 100000
set_option maxHeartbeats 3200000
namespace Ly
open PySem PySem.Spec PyProof.Rows L2 Evl
/-- a whole number, not below zero -/
def NN : PyData → Prop := fun d => ∃ n : Int, 0 ≤ n ∧ d = .int n
section
variable {X : Cx} {tp : TPar} {Γ : List Sl} {e b : Expr} {P : PyData → Prop} {pos p2 p3 p4 : Pos} {Z : Out} {n : Nat} {y : Str}
/-- tape[i], i = 1, 2, 3 -/
theorem e_tape (j : Nat) {i : Int} (hi : i = 1 ∨ i = 2 ∨ i = 3) (hj : Γ[j]? = some .tape) (hN : X.N[j]? = some y := by rfl) (hv : Vis X.env.scope y := by first | exact Or.inl rfl | exact Or.inr (Or.inl rfl) | exact Or.inr (Or.inr rfl))
    (hd : (y == ("__debug__" : Str)) = false := by decide) (hcd : (y == ("__classdict__" : Str)) = false := by decide) :
    E X tp Γ (.Subscript (.Name y p2) (.Constant (.int i) n p3) pos) NN :=
  e_of (pe_ix ix_list (pe_var hN hv hd hcd) pe_int (fun _ _ => rfl)) fun B σ G H h Q q => by
    obtain ⟨t, e1, e2⟩ := h.sl j _ hj
    obtain ⟨⟨a, b, c, h0, h1, h2, ht⟩, _, _⟩ := h.tape t e1
    refine ⟨.ref t.1, e2, ?_⟩
    rcases hi with rfl | rfl | rfl
    · exact ⟨t.1, _, 1, .int a, rfl, rfl, SqL.of ht, rfl, q _ _ G H ⟨a, h0, rfl⟩ (.int a) (Adv.refl h.sub)⟩
    · exact ⟨t.1, _, 2, .int b, rfl, rfl, SqL.of ht, rfl, q _ _ G H ⟨b, h1, rfl⟩ (.int b) (Adv.refl h.sub)⟩
    · exact ⟨t.1, _, 3, .int c, rfl, rfl, SqL.of ht, rfl, q _ _ G H ⟨c, h2, rfl⟩ (.int c) (Adv.refl h.sub)⟩
theorem Adv.tapeW {t : Addr × Addr × List Int} {K : PySem.W.Frag} {G H : Hp} {o : HO} (h : Ex G H) (hg : G t.1 = none) (ho : ∃ o', H t.1 = some o') (m : Mt o) (hT : TapeH t (upd H t.1 o)) : Adv (some t) G H G (upd H t.1 o) where
  gx := Ex.refl G
  hx := fun a u e nt => by rw [upd_ne (nt t rfl)]; exact e
  dom := fun a z => by
    by_cases c : a = t.1
    · rw [c, upd_same] at z; cases z
    · rw [upd_ne c] at z; exact z
  km := fun a u e mu => by
    by_cases c : a = t.1
    · subst c; exact ⟨o, upd_same, m⟩
    · exact ⟨u, by rw [upd_ne c]; exact e, mu⟩
  sub := fun a u e => by
    have c : a ≠ t.1 := fun z => by rw [z, hg] at e; cases e
    rw [upd_ne c]; exact h a u e
  nw := fun _ _ _ _ g => g
  tape := fun t' e _ => by cases e; exact hT
/-- tape[i] = .. -/
theorem s_tput (j : Nat) {i : Int} (hi : i = 1 ∨ i = 2 ∨ i = 3) (hj : Γ[j]? = some .tape) (he : E X tp Γ e NN) (k : Z.nx Γ) (hN : X.N[j]? = some y := by rfl) (hv : Vis X.env.scope y := by first | exact Or.inl rfl | exact Or.inr (Or.inl rfl) | exact Or.inr (Or.inr rfl))
    (hd : (y == ("__debug__" : Str)) = false := by decide) (hcd : (y == ("__classdict__" : Str)) = false := by decide) (hs : swapsWithSole [.Subscript (.Name y p2) (.Constant (.int i) n p3) p4] e pos.line X.env = pure false := by rfl)
    (hw : swappedStores [.Subscript (.Name y p2) (.Constant (.int i) n p3) p4] e X.env = pure none := by rfl) (ha : (assignEach [.Subscript (.Name y p2) (.Constant (.int i) n p3) p4] X.env).map (·.2) = [assign (.Subscript (.Name y p2) (.Constant (.int i) n p3) p4) X.env] := by rfl) :
    S1 X tp Γ (.Assign [.Subscript (.Name y p2) (.Constant (.int i) n p3) p4] e pos) Z :=
  s1_of (ps_asg pe_w (pg_sub (pe_var hN hv hd hcd) pe_int set_list) hs hw ha) fun B σ G H D h cn => he B σ G H h _ fun v d G2 H2 hp hx a => by
    obtain ⟨m, hm, rfl⟩ := hp
    cases hx
    have hv2 := h.adv' a
    obtain ⟨t, e1, e2⟩ := hv2.sl j _ hj
    subst e1
    obtain ⟨⟨x1, x2, x3, h0, h1, h2, ht⟩, tg, _⟩ := hv2.tape t rfl
    refine ⟨.ref t.1, e2, ?_⟩
    rcases hi with rfl | rfl | rfl
    · refine ⟨t.1, _, 1, 1, rfl, rfl, ht, rfl, cn.nx Γ σ G2 _ k (hv2.adv' (Adv.tapeW (K := X.K) hv2.sub tg.1 ⟨_, ht⟩ mt_l ⟨m, x2, x3, hm, h1, h2, by rw [upd_same]; rfl⟩))⟩
    · refine ⟨t.1, _, 2, 2, rfl, rfl, ht, rfl, cn.nx Γ σ G2 _ k (hv2.adv' (Adv.tapeW (K := X.K) hv2.sub tg.1 ⟨_, ht⟩ mt_l ⟨x1, m, x3, h0, hm, h2, by rw [upd_same]; rfl⟩))⟩
    · refine ⟨t.1, _, 3, 3, rfl, rfl, ht, rfl, cn.nx Γ σ G2 _ k (hv2.adv' (Adv.tapeW (K := X.K) hv2.sub tg.1 ⟨_, ht⟩ mt_l ⟨x1, x2, m, h0, h1, hm, by rw [upd_same]; rfl⟩))⟩
/-- the reading of tape[0] -/
theorem w_cells (j : Nat) (hj : Γ[j]? = some .tape) (hN : X.N[j]? = some y := by rfl) (hv : Vis X.env.scope y := by first | exact Or.inl rfl | exact Or.inr (Or.inl rfl) | exact Or.inr (Or.inr rfl))
    (hd : (y == ("__debug__" : Str)) = false := by decide) (hcd : (y == ("__classdict__" : Str)) = false := by decide) (B : Bs) (σ : L2.St) (G H : Hp) (h : Hv X.K B tp Γ σ G H) (Q : VK) (q : ∀ t, tp = some t → SqL X.K H t.2.1 (t.2.2.map V.int) → t.2.2.length ≤ 63 → Q (.ref t.2.1) H) :
    wE X (.Subscript (.Name y p2) (.Constant (.int 0) n p3) pos) σ H Q := by
  refine we_of (pe_ix ix_list (pe_var hN hv hd hcd) pe_int (fun _ _ => rfl)) ?_
  obtain ⟨t, e1, e2⟩ := h.sl j _ hj
  obtain ⟨⟨a, b, c, h0, h1, h2, ht⟩, tg, _⟩ := h.tape t e1
  exact ⟨.ref t.1, e2, t.1, _, 0, .ref t.2.1, rfl, rfl, SqL.of ht, rfl, q t e1 (ex_l h.sub tg.2.1) tg.2.2⟩
/-- len(tape[0]) -/
theorem e_tlen (j : Nat) {p5 : Pos} (hm : X.mg "len" = none) (hj : Γ[j]? = some .tape) (hN : X.N[j]? = some y := by rfl) (hv : Vis X.env.scope y := by first | exact Or.inl rfl | exact Or.inr (Or.inl rfl) | exact Or.inr (Or.inr rfl))
    (hd : (y == ("__debug__" : Str)) = false := by decide) (hcd : (y == ("__classdict__" : Str)) = false := by decide) (hg : Gl X "len" := by rfl)
    (he : starEach [.Subscript (.Name y p2) (.Constant (.int 0) n p3) p4] X.env = (false, eval (.Subscript (.Name y p2) (.Constant (.int 0) n p3) p4) X.env) :: starEach [] X.env := by rfl) (hpl : (backTo pos (starEach [] X.env)).any (·.1) = false := by rfl) :
    E X tp Γ (.Call (.Name "len" p5) [.Subscript (.Name y p2) (.Constant (.int 0) n p3) p4] [] pos) (fun d => ∃ t, tp = some t ∧ d = .int (t.2.2.length : Nat)) :=
  e_of (pe_callB call_len_seq hg hm PySem.boot_len (pa_cons pe_w pa_nil he) (by decide) (by decide) he hpl) fun B σ G H h Q q => w_cells j hj hN hv hd hcd B σ G H h _ fun t e1 sq hl => by
    refine ⟨_, _, rfl, .inl sq, ?_⟩
    rw [List.length_map]
    exact q _ _ G H ⟨t, e1, rfl⟩ (.int _) (Adv.refl h.sub)
/-- tape[0][i], i in range -/
theorem e_tcell (j : Nat) (hj : Γ[j]? = some .tape) (hb : E X tp Γ b (fun d => ∃ t, tp = some t ∧ ∃ i : Int, d = .int i ∧ 0 ≤ i ∧ i < (t.2.2.length : Int))) (hs : PlainIx b := by exact fun _ _ => rfl) (hN : X.N[j]? = some y := by rfl) (hv : Vis X.env.scope y := by first | exact Or.inl rfl | exact Or.inr (Or.inl rfl) | exact Or.inr (Or.inr rfl))
    (hd : (y == ("__debug__" : Str)) = false := by decide) (hcd : (y == ("__classdict__" : Str)) = false := by decide) :
    E X tp Γ (.Subscript (.Subscript (.Name y p2) (.Constant (.int 0) n p3) p4) b pos) (fun d => ∃ i : Int, d = .int i) :=
  e_of (pe_ix ix_list pe_w pe_w hs) fun B σ G H h Q q => w_cells j hj hN hv hd hcd B σ G H h _ fun t e1 sq hl => hb B σ G H h _ fun v d G2 H2 hp hx a => by
    obtain ⟨t', e1', i, rfl, h0, h1⟩ := hp
    rw [e1] at e1'
    cases e1'
    cases hx
    have hi : i.toNat < t.2.2.length := by omega
    have ei : i = (i.toNat : Int) := by omega
    obtain ⟨_, tg, _⟩ := (h.adv' a).tape t e1
    refine ⟨t.2.1, t.2.2.map V.int, i, .int t.2.2[i.toNat], rfl, rfl, ex_l (h.adv' a).sub tg.2.1, ?_, q _ _ G2 H2 ⟨_, rfl⟩ (.int _) a⟩
    refine Eq.trans (congrArg (atI (t.2.2.map V.int)) ei) ?_
    exact atI_nat (by rw [List.getElem?_map, List.getElem?_eq_getElem hi]; rfl)
end
end Ly


set_option Elab.async false
set_option linter.all false
set_option maxRecDepth 100000
set_option maxHeartbeats 3200000
namespace Ly
open PySem PySem.Spec PyProof.Rows L2 Evl
section
variable {K : PySem.W.Frag} {B : Bs} {tp : TPar} {Γ : List Sl} {σ : L2.St} {G H G2 H2 : Hp}
/-- a dict of this frame is changed -/
theorem Hv.wrT {i : Nat} {xs ys : List (List Key × V)} {p : Addr} (E : Hv K B tp Γ σ G H) (e : Γ[i]? = some (.tab xs)) (hp : σ[i]? = some (some (.ref p))) : Hv K B tp (Γ.set i (.tab ys)) σ G (upd H p (.dT ys)) := by
  obtain ⟨p', e', n0, g0, h0⟩ := E.sl i _ e
  rw [hp] at e'
  cases e'
  have hi : i < Γ.length := (List.getElem?_eq_some_iff.mp e).1
  have notT : ∀ t, tp = some t → t.1 ≠ p := fun t z q => (E.tape t z).2.2 (q ▸ n0)
  have other : ∀ j k, j ≠ i → Γ[j]? = some k → SlOk K tp B.H0 G (upd H p (.dT ys)) k σ[j]? := fun j k ne ek => by
    have hk := E.sl j k ek
    cases k with
    | any => trivial
    | dat d => exact hk
    | own zs =>
      obtain ⟨q, us, e1, e2, e3, e4, e5⟩ := hk
      have nq : q ≠ p := fun z => by
        subst z
        exact E.ap i j _ _ q (Ne.symm ne) e ek rfl rfl hp e1
      exact ⟨q, us, e1, e2, e3, by rw [upd_ne nq]; exact e4, e5⟩
    | tape => exact hk
    | tab kvs =>
      obtain ⟨q, e1, e2, e3, e4⟩ := hk
      have nq : q ≠ p := fun z => by
        subst z
        exact E.ap i j _ _ q (Ne.symm ne) e ek rfl rfl hp e1
      exact ⟨q, e1, e2, e3, by rw [upd_ne nq]; exact e4⟩
    | ftab kvs => exact hk
  refine ⟨E.mn, ⟨E.adv.gx, fun a o z nt => ?_, fun a z => ?_, fun a o z m => ?_, fun a o z => ?_, E.adv.nw, fun t z q => ?_⟩, fun t z => ?_, fun j k ek => ?_, by rw [List.length_set, E.len], fun a b k l q nn e1 e2 m1 m2 s1 => ?_⟩
  · have na : a ≠ p := fun q => by rw [q, n0] at z; cases z
    rw [upd_ne na]; exact E.adv.hx a o z nt
  · by_cases na : a = p
    · rw [na, upd_same] at z; cases z
    · rw [upd_ne na] at z; exact E.adv.dom a z
  · have na : a ≠ p := fun q => by rw [q, n0] at z; cases z
    rw [upd_ne na]; exact E.adv.km a o z m
  · have na : a ≠ p := fun q => by rw [q, g0] at z; cases z
    rw [upd_ne na]; exact E.adv.sub a o z
  · obtain ⟨i1, j1, k1, b0, b1, b2, q1⟩ := E.adv.tape t z q
    exact ⟨i1, j1, k1, b0, b1, b2, by rw [upd_ne (notT t z)]; exact q1⟩
  · obtain ⟨⟨i1, j1, k1, b0, b1, b2, q1⟩, r⟩ := E.tape t z
    exact ⟨⟨i1, j1, k1, b0, b1, b2, by rw [upd_ne (notT t z)]; exact q1⟩, r⟩
  · by_cases hj : i = j
    · subst hj
      rw [List.getElem?_set_self hi] at ek
      cases ek
      exact ⟨p, hp, n0, g0, upd_same⟩
    · rw [List.getElem?_set_ne hj] at ek
      exact other j k (Ne.symm hj) ek
  · have k1 : ∃ k', Γ[a]? = some k' ∧ k'.mut = true := by
      by_cases ha : i = a
      · subst ha; exact ⟨_, e, rfl⟩
      · rw [List.getElem?_set_ne ha] at e1; exact ⟨_, e1, m1⟩
    have k2 : ∃ k', Γ[b]? = some k' ∧ k'.mut = true := by
      by_cases hb : i = b
      · subst hb; exact ⟨_, e, rfl⟩
      · rw [List.getElem?_set_ne hb] at e2; exact ⟨_, e2, m2⟩
    obtain ⟨k', c1, c2⟩ := k1
    obtain ⟨l', d1, d2⟩ := k2
    exact E.ap a b k' l' q nn c1 d1 c2 d2 s1
end
section
variable {X : Cx}
/-- a dict is read, not written, while a test runs -/
theorem wt_lock {e : Expr} {σ : L2.St} {H : Hp} {Q : Bool → Hp → Prop} (d : Addr) (u : HO) (hd : H d = some u) (mu : Mut (some u)) (h : ∀ od, wT X e σ (upd H d (.frz od u)) fun b H' => H' d = some (.frz od u) ∧ Q b (upd H' d u)) : wT X e σ H Q := fun pins s I => by
  obtain ⟨od, I1⟩ := I.lock hd mu
  exact thn (h od pins s I1) fun b s1 ⟨H', I2, e, q⟩ => ⟨upd H' d u, I2.unlock e (I.nofrz hd mu), q⟩
theorem we_lock {e : Expr} {σ : L2.St} {H : Hp} {Q : VK} (d : Addr) (u : HO) (hd : H d = some u) (mu : Mut (some u)) (h : ∀ od, wE X e σ (upd H d (.frz od u)) fun b H' => H' d = some (.frz od u) ∧ Q b (upd H' d u)) : wE X e σ H Q := fun pins s I => by
  obtain ⟨od, I1⟩ := I.lock hd mu
  exact thn (h od pins s I1) fun b s1 ⟨v, H', I2, r, e, q⟩ => ⟨v, upd H' d u, I2.unlock e (I.nofrz hd mu), r, q⟩
end
section
variable {X : Cx} {tp : TPar} {Γ : List Sl} {e a b tg : Expr} {pos p2 p3 p4 : Pos} {Z : Out} {B : Bs} {σ : L2.St} {G H G2 H2 : Hp} {K : PySem.W.Frag}
theorem Hv.lock {i : Nat} {kvs : List (List Key × V)} (h : Hv K B tp Γ σ G H) (hi : Γ[i]? = some (.tab kvs)) : ∃ p, H p = some (.dT kvs) ∧ (∀ t, tp = some t → p ≠ t.1) ∧ G p = none ∧ ∀ od, Hv K B tp (Γ.set i (.ftab kvs)) σ (upd G p (.frz od (.dT kvs))) (upd H p (.frz od (.dT kvs))) := by
  obtain ⟨p, e', n0, g0, h0⟩ := h.sl i _ hi
  have hil : i < Γ.length := (List.getElem?_eq_some_iff.mp hi).1
  have notT : ∀ t, tp = some t → t.1 ≠ p := fun t z q => (h.tape t z).2.2 (q ▸ n0)
  refine ⟨p, h0, fun t z => (notT t z).symm, g0, fun od => ?_⟩
  have gx : Ex G (upd G p (.frz od (.dT kvs))) := Ex.new g0
  refine ⟨h.mn.trans gx, ⟨h.adv.gx.trans gx, fun x o z nt => ?_, fun x z => ?_, fun x o z m => ?_, fun x o z => ?_, fun x o z m g => ?_, fun t z q => ?_⟩, fun t z => ?_, fun j k ek => ?_, by rw [List.length_set, h.len], fun x y k l q nn e1 e2 m1 m2 s1 => ?_⟩
  · have nx : x ≠ p := fun q => by rw [q, n0] at z; cases z
    rw [upd_ne nx]; exact h.adv.hx x o z nt
  · by_cases nx : x = p
    · rw [nx, upd_same] at z; cases z
    · rw [upd_ne nx] at z; exact h.adv.dom x z
  · have nx : x ≠ p := fun q => by rw [q, n0] at z; cases z
    rw [upd_ne nx]; exact h.adv.km x o z m
  · by_cases nx : x = p
    · rw [nx, upd_same] at z ⊢; exact z
    · rw [upd_ne nx] at z ⊢; exact h.adv.sub x o z
  · have nx : x ≠ p := fun q => by rw [q, n0] at z; cases z
    rw [upd_ne nx]; exact h.adv.nw x o z m g
  · obtain ⟨i1, j1, k1, b0, b1, b2, q1⟩ := h.adv.tape t z q
    exact ⟨i1, j1, k1, b0, b1, b2, by rw [upd_ne (notT t z)]; exact q1⟩
  · obtain ⟨⟨i1, j1, k1, b0, b1, b2, q1⟩, ⟨a2, a3, a4⟩, a5⟩ := h.tape t z
    exact ⟨⟨i1, j1, k1, b0, b1, b2, by rw [upd_ne (notT t z)]; exact q1⟩, ⟨by rw [upd_ne (notT t z)]; exact a2, ex_l gx a3, a4⟩, a5⟩
  · by_cases hj : i = j
    · subst hj
      rw [List.getElem?_set_self hil] at ek
      cases ek
      exact ⟨p, od, e', upd_same⟩
    · rw [List.getElem?_set_ne hj] at ek
      have hk := h.sl j k ek
      cases k with
      | any => trivial
      | dat d => obtain ⟨v, z1, z2⟩ := hk; exact ⟨v, z1, Dq.ex z2 gx⟩
      | own zs =>
        obtain ⟨q, us, f1, f2, f3, f4, f5⟩ := hk
        have nq : q ≠ p := fun z => by
          subst z
          exact h.ap i j _ _ q hj hi ek rfl rfl e' f1
        exact ⟨q, us, f1, f2, by rw [upd_ne nq]; exact f3, by rw [upd_ne nq]; exact f4, DqAll.ex gx f5⟩
      | tape => exact hk
      | tab kvs2 =>
        obtain ⟨q, f1, f2, f3, f4⟩ := hk
        have nq : q ≠ p := fun z => by
          subst z
          exact h.ap i j _ _ q hj hi ek rfl rfl e' f1
        exact ⟨q, f1, f2, by rw [upd_ne nq]; exact f3, by rw [upd_ne nq]; exact f4⟩
      | ftab kvs2 => obtain ⟨q, ob, f1, f2⟩ := hk; exact ⟨q, ob, f1, gx _ _ f2⟩
  · by_cases ha : i = x
    · subst ha
      rw [List.getElem?_set_self hil] at e1
      cases e1
      cases m1
    · by_cases hb : i = y
      · subst hb
        rw [List.getElem?_set_self hil] at e2
        cases e2
        cases m2
      · rw [List.getElem?_set_ne ha] at e1
        rw [List.getElem?_set_ne hb] at e2
        exact h.ap x y k l q nn e1 e2 m1 m2 s1
theorem Adv.unlock {p : Addr} {od : Obj} {kvs : List (List Key × V)} (hs : Ex G H) (hp : H p = some (.dT kvs)) (hg : G p = none) (nt : ∀ t, tp = some t → p ≠ t.1) (a : Adv tp (upd G p (.frz od (.dT kvs))) (upd H p (.frz od (.dT kvs))) G2 H2) :
    H2 p = some (.frz od (.dT kvs)) ∧ Adv tp G H G (upd H2 p (.dT kvs)) := by
  refine ⟨a.hx p _ upd_same nt, ⟨Ex.refl G, fun x o z n => ?_, fun x z => ?_, fun x o z m => ?_, fun x o z => ?_, fun _ _ _ _ g => g, fun t z q => ?_⟩⟩
  · by_cases c : x = p
    · subst c
      rw [upd_same, ← hp, z]
    · rw [upd_ne c]; exact a.hx x o (by rw [upd_ne c]; exact z) n
  · by_cases c : x = p
    · rw [c, upd_same] at z; cases z
    · rw [upd_ne c] at z
      have := a.dom x z
      rwa [upd_ne c] at this
  · by_cases c : x = p
    · subst c; exact ⟨_, upd_same, mt_d⟩
    · rw [upd_ne c]; exact a.km x o (by rw [upd_ne c]; exact z) m
  · have c : x ≠ p := fun c => by rw [c, hg] at z; cases z
    rw [upd_ne c]
    exact a.sub x o (a.gx x o (by rw [upd_ne c]; exact z))
  · have c := (nt t z).symm
    obtain ⟨i, j, k, h0, h1, h2, e⟩ := q
    obtain ⟨i', j', k', h0', h1', h2', e'⟩ := a.tape t z ⟨i, j, k, h0, h1, h2, by rw [upd_ne c]; exact e⟩
    exact ⟨i', j', k', h0', h1', h2', by rw [upd_ne c]; exact e'⟩
theorem t_lock {R : Bool → Prop} (i : Nat) {kvs : List (List Key × V)} (hi : Γ[i]? = some (.tab kvs)) (h : T X tp (Γ.set i (.ftab kvs)) e R) : T X tp Γ e R := fun B σ G H hv Q q => by
  obtain ⟨p, hp, nt, hg, hl⟩ := hv.lock hi
  refine wt_lock p _ hp trivial fun od => ?_
  refine h B σ _ _ (hl od) _ fun b G2 H2 hr a => ?_
  obtain ⟨e1, a2⟩ := Adv.unlock hv.sub hp hg nt a
  exact ⟨e1, q b G _ hr a2⟩
theorem e_lock {R : PyData → Prop} (i : Nat) {kvs : List (List Key × V)} (hi : Γ[i]? = some (.tab kvs)) (h : E X tp (Γ.set i (.ftab kvs)) e R) (hs : ∀ d, R d → scalD d = true) : E X tp Γ e R := fun B σ G H hv Q q => by
  obtain ⟨p, hp, nt, hg, hl⟩ := hv.lock hi
  refine we_lock p _ hp trivial fun od => ?_
  refine h B σ _ _ (hl od) _ fun v d G2 H2 hr hx a => ?_
  obtain ⟨e1, a2⟩ := Adv.unlock hv.sub hp hg nt a
  exact ⟨e1, q v d G _ hr (Dq.scal hx (hs d hr)) a2⟩
/-! dicts from pairs of numbers to numbers -/
def tabK (L : List (Nat × Nat)) (g : Nat × Nat → Nat) : List (List Key × V) := L.map fun p => ([.inl (p.1 : Int), .inl (p.2 : Int)], .int (g p : Int))
def dP (p : Nat × Nat) : PyData := .tuple [.int (p.1 : Int), .int (p.2 : Int)]
theorem key_inj {p q : Nat × Nat} (h : ([.inl (p.1 : Int), .inl (p.2 : Int)] : List Key) = [.inl (q.1 : Int), .inl (q.2 : Int)]) : p = q := by
  have h1 : (p.1 : Int) = (q.1 : Int) := by
    have := congrArg (fun l : List Key => l[0]?) h
    have h2 : (some (Sum.inl (p.1 : Int)) : Option Key) = some (Sum.inl (q.1 : Int)) := this
    injection h2 with h2
    injection h2
  have h3 : (p.2 : Int) = (q.2 : Int) := by
    have := congrArg (fun l : List Key => l[1]?) h
    have h2 : (some (Sum.inl (p.2 : Int)) : Option Key) = some (Sum.inl (q.2 : Int)) := this
    injection h2 with h2
    injection h2
  exact Prod.ext (by omega) (by omega)
theorem tab_get {g : Nat × Nat → Nat} {q : Nat × Nat} : ∀ {L : List (Nat × Nat)}, q ∈ L → valV (tabK L g) [.inl (q.1 : Int), .inl (q.2 : Int)] = some (.int (g q : Int))
  | p :: L, h => by
    unfold tabK
    rw [List.map_cons]
    by_cases c : p = q
    · subst c
      exact valV_pos rfl
    · rw [valV_neg (fun z => c (key_inj z))]
      rcases List.mem_cons.mp h with z | z
      · exact absurd z.symm c
      · exact tab_get z
theorem tab_put {g : Nat × Nat → Nat} {q : Nat × Nat} {L : List (Nat × Nat)} (h : q ∉ L) : putK (tabK L g) [.inl (q.1 : Int), .inl (q.2 : Int)] (.int (g q : Int)) = tabK (L ++ [q]) g := by
  unfold putK
  rw [if_neg]
  · unfold tabK
    rw [List.map_append]
    rfl
  · intro z
    obtain ⟨x, hx, e⟩ := List.any_eq_true.mp z
    unfold tabK at hx
    obtain ⟨p, hp, rfl⟩ := List.mem_map.mp hx
    have := key_inj (of_decide_eq_true e)
    rw [this] at hp
    exact h hp
/-- x = {} -/
theorem s_newTab (i : Nat) {x : Str} (k : Z.nx (Γ.set i (.tab []))) (hN : X.N.Nodup := by assumption) (hi : X.N[i]? = some x := by rfl) (hx : Loc X.env.scope x := by first | exact .inl rfl | exact .inr rfl)
    (hs : swapsWith (.Dict [] [] p3) (some (.Name x p2)) pos.line X.env = pure false := by rfl) (hf : X.fn x = true ∨ X.env.scope.names.lookup x = some .local := by first | exact .inl rfl | exact .inr rfl) : S1 X tp Γ (.Assign [.Name x p2] (.Dict [] [] p3) pos) Z :=
  s1_of (ps_set hN hi hx pe_dnewT hs hf) fun B σ G H D hv cn p hn => cn.nx _ _ G _ k (hv.setM (Adv.hid hv.sub hn) hn ⟨p, rfl, hv.adv.dom p hn, fresh_back hv.sub hn, upd_same⟩)
/-- d[q] = g q -/
theorem s_tabSet (i : Nat) {x : Str} {L : List (Nat × Nat)} {g : Nat × Nat → Nat} {q : Nat × Nat} (hu : X.A.units + 1 < cLine) (hi : Γ[i]? = some (.tab (tabK L g))) (he : Ed X tp Γ e (.int (g q : Int))) (hb : Ed X tp Γ b (dP q)) (hq : q ∉ L) (hl : L.length < 100000) (k : Z.nx (Γ.set i (.tab (tabK (L ++ [q]) g))))
    (hN : X.N[i]? = some x := by rfl) (hv : Vis X.env.scope x := by first | exact Or.inl rfl | exact Or.inr (Or.inl rfl) | exact Or.inr (Or.inr rfl)) (hd : (x == ("__debug__" : Str)) = false := by decide) (hcd : (x == ("__classdict__" : Str)) = false := by decide) (hs : swapsWith e (some (.Subscript (.Name x p2) b p3)) pos.line X.env = pure false := by rfl) :
    S1 X tp Γ (.Assign [.Subscript (.Name x p2) b p3] e pos) Z :=
  s1_of (ps_dput hu (pe_var hN hv hd hcd) pe_w pe_w hs) fun B σ G H D hv cn => he B σ G H hv _ fun v d G1 H1 hp hx a1 => by
    subst hp
    cases hx
    have hv1 := hv.adv' a1
    obtain ⟨p, e1, _⟩ := hv1.sl i _ hi
    refine ⟨.ref p, e1, hb B σ G1 H1 hv1 _ fun y d G2 H2 hp hx a2 => ?_⟩
    have hv2 := hv1.adv' a2
    subst hp
    obtain ⟨p', e1', n0, g0, h0⟩ := hv2.sl i _ hi
    rw [e1] at e1'
    cases e1'
    cases hx with
    | tup s1 d1 =>
      have ev := DqAll.ints (ns := [(q.1 : Int), (q.2 : Int)]) d1
      subst ev
      refine ⟨p, _, rfl, DPut.t (k := [.inl (q.1 : Int), .inl (q.2 : Int)]) h0 (hv2.sub _ _ s1) ?_, ?_⟩
      · unfold tabK
        rw [List.length_map]
        exact Nat.lt_of_lt_of_le hl (by decide)
      · rw [tab_put hq]
        exact cn.nx _ _ G2 _ k (hv2.wrT hi e1)
/-- d[q], locked -/
theorem e_tabGet (i : Nat) {x : Str} {L : List (Nat × Nat)} {g : Nat × Nat → Nat} {q : Nat × Nat} (hu : X.A.units + 1 < cLine) (hi : Γ[i]? = some (.ftab (tabK L g))) (hb : Ed X tp Γ b (dP q)) (hq : q ∈ L) (hs : NoSl b := by first | rfl | trivial | exact fun _ _ => rfl)
    (hN : X.N[i]? = some x := by rfl) (hv : Vis X.env.scope x := by first | exact Or.inl rfl | exact Or.inr (Or.inl rfl) | exact Or.inr (Or.inr rfl)) (hd : (x == ("__debug__" : Str)) = false := by decide) (hcd : (x == ("__classdict__" : Str)) = false := by decide) :
    Ed X tp Γ (.Subscript (.Name x p2) b pos) (.int (g q : Int)) :=
  e_of (pe_dget hu (pe_var hN hv hd hcd) pe_w hs) fun B σ G H hv Q z => by
    obtain ⟨p, ob, e1, e2⟩ := hv.sl i _ hi
    refine ⟨.ref p, e1, hb B σ G H hv _ fun y d G2 H2 hp hx a2 => ?_⟩
    subst hp
    cases hx with
    | tup s1 d1 =>
      have ev := DqAll.ints (ns := [(q.1 : Int), (q.2 : Int)]) d1
      subst ev
      exact ⟨p, .int (g q : Int), rfl, .inr ⟨tabK L g, [.inl (q.1 : Int), .inl (q.2 : Int)], _, .inr ⟨ob, a2.sub _ _ (a2.gx _ _ e2)⟩, rfl, a2.sub _ _ s1, (tab_get hq).symm⟩, z _ _ G2 H2 rfl (.int _) a2⟩
/-- for q in d, locked -/
theorem it_tab {p : Addr} {ob : Obj} {L : List (Nat × Nat)} {g : Nat × Nat → Nat} (hs : G p = some (.frz ob (.dT (tabK L g)))) : DataIt tp (Itkt p ob (tabK L g)) (L.map dP) G where
  go := fun i H ex hi => ⟨ex _ _ hs, by unfold tabK; rw [List.length_map] at hi ⊢; exact hi⟩
  stop := fun H ex => ⟨ex _ _ hs, by unfold tabK; rw [List.length_map, List.length_map]; exact Nat.le_refl _⟩
  yld := fun i H x H' G1 e1 e2 hi hy => by
    obtain ⟨rfl, k, v, q, hk, rfl, hq⟩ := hy
    unfold tabK at hk
    rw [List.getElem?_map] at hk
    cases hL : L[i]? with
    | none => rw [hL] at hk; cases hk
    | some r =>
      rw [hL] at hk
      cases hk
      obtain ⟨G', a, hg⟩ := Adv.seeT (tp := tp) e2 hq
      refine ⟨dP r, G', by rw [List.getElem?_map, hL]; rfl, .tup hg (.cons (.int _) (.cons (.int _) .nil)), a⟩
theorem i_tab (i : Nat) {x : Str} {L : List (Nat × Nat)} {g : Nat × Nat → Nat} (hi : Γ[i]? = some (.ftab (tabK L g))) (hN : X.N[i]? = some x := by rfl) (hv : Vis X.env.scope x := by first | exact Or.inl rfl | exact Or.inr (Or.inl rfl) | exact Or.inr (Or.inr rfl))
    (hd : (x == ("__debug__" : Str)) = false := by decide) (hcd : (x == ("__classdict__" : Str)) = false := by decide) : I X tp Γ tg (.Name x p2) (fun ds => ds = L.map dP) :=
  i_of (pi_keys (pe_var hN hv hd hcd)) fun B σ G H hv R r => by
    obtain ⟨p, ob, e1, e2⟩ := hv.sl i _ hi
    exact ⟨.ref p, e1, p, ob, rfl, .inr ⟨_, hv.sub _ _ e2, r _ _ G H rfl (Adv.refl hv.sub) (it_tab e2)⟩⟩
end
end Ly


set_option Elab.async false
set_option linter.all false
set_option maxRecDepth 100000
set_option maxHeartbeats 2000000
namespace Ly
open PySem PySem.Spec PyProof.Rows L2 Evl Rw
/-! ### the text -/
def topS (i : Nat) : Stmt := PySem.Challenge.pw_ringwords_k41_whole_no_drawing_crosses_l.main.body.getD i (.Pass ⟨0, 0, 0, 0⟩)
/-! ### texts as lists of codes -/
def Tx (w : List Nat) : Str := ⟨w.toArray⟩
def dL (c : Nat) : PyData := .str ⟨#[c]⟩
def dW (w : List Nat) : PyData := .str (Tx w)
def dS (s : Nat × Nat) : PyData := .tuple [.int (s.1 : Int), .int (s.2 : Int)]
def dWs (ws : List (List Nat)) : PyData := .tuple (ws.map dW)
theorem tx_len (w : List Nat) : (Tx w).length = w.length := by unfold Tx Str.length; rw [List.size_toArray]
theorem tx_list (w : List Nat) : (Tx w).cps.toList = w := rfl
theorem tx_signs (w : List Nat) : signsD (Tx w) = w.map dL := rfl
theorem lt_cases {c : Nat} (h : Lt c) : c = 65 ∨ c = 66 ∨ c = 67 ∨ c = 68 ∨ c = 69 ∨ c = 70 ∨ c = 97 ∨ c = 98 ∨ c = 99 ∨ c = 100 ∨ c = 101 ∨ c = 102 := by unfold Lt at h; omega
theorem upper1 {c : Nat} (h : Lt c) (hs : 97 ≤ c) : Txt.upper ⟨#[c]⟩ = ⟨#[bk c]⟩ := by
  rcases lt_cases h with rfl | rfl | rfl | rfl | rfl | rfl | rfl | rfl | rfl | rfl | rfl | rfl <;> first | (exact absurd hs (by decide)) | decide +kernel
theorem lower1 {c : Nat} (h : Lt c) : Txt.lower ⟨#[c]⟩ = ⟨#[if c < 97 then c + 32 else c]⟩ := by
  rcases lt_cases h with rfl | rfl | rfl | rfl | rfl | rfl | rfl | rfl | rfl | rfl | rfl | rfl <;> decide +kernel
theorem lower1B {c : Nat} (h : Lt c) (hs : ¬ 97 ≤ c) : Txt.lower ⟨#[c]⟩ = ⟨#[bk c]⟩ := by
  rw [lower1 h]; unfold bk; rw [if_pos (by omega), if_pos (by omega)]
/-- what the top has bound -/
structure Bl (mg : Str → Option Value) : Prop where
  len : mg "len" = none
  range : mg "range" = none
  list : mg "list" = none
  tuple : mg "tuple" = none
  sum : mg "sum" = none
  all : mg "all" = none
  min : mg "min" = none
  isi : mg "isinstance" = none
  set : mg "set" = none
  sorted : mg "sorted" = none
  enum : mg "enumerate" = none
  int : mg "int" = none
  bool : mg "bool" = none
  str : mg "str" = none
  sm1 : ∃ t, mg "SMALL_letters" = some (.str "abcdef" t)
  sm2 : ∃ t, mg "SMALL_strands" = some (.str "abcdef" t)
  sm3 : ∃ t, mg "SMALL_tight" = some (.str "abcdef" t)
theorem small_mem {c : Nat} (h : Lt c) : decide (c ∈ ("abcdef" : Str).cps.toList) = decide (97 ≤ c) := by
  rcases lt_cases h with rfl | rfl | rfl | rfl | rfl | rfl | rfl | rfl | rfl | rfl | rfl | rfl <;> decide +kernel

section
variable {X : Cx} {tp : TPar} {Γ : List Sl} {tg iter : Expr}
theorem e_revW {e : Expr} {pos p1 q1 q2 : Pos} {k : Nat} {w : List Nat} (h : Ed X tp Γ e (dW w)) (hz : w.length ≤ 100000) : Ed X tp Γ (.Subscript e (.Slice none none (some (.UnaryOp .USub (.Constant (.int 1) k p1) q1)) q2) pos) (dW w.reverse) := e_revS h (by rw [tx_len]; exact hz)
theorem i_strW {w : List Nat} (h : Ed X tp Γ iter (dW w)) : I X tp Γ tg iter (fun ds => ds = w.map dL) := i_str h
end
/-! ### calls with one answer -/
abbrev spF {ι : Type} (K : PySem.W.Frag) (args : ι → List PyData) (pre : ι → Prop) (out : ι → PyData) : Sp := spI K args pre (fun i r => r = .dat (out i))
abbrev spO {ι : Type} (K : PySem.W.Frag) (args : ι → List PyData) (pre : ι → Prop) (out : ι → List PyData) : Sp := spI K args pre (fun i r => r = .own (out i))
section
variable {X : Cx} {tp : TPar} {Γ : List Sl} {e a b c : Expr} {es : List Expr} {pos apos p2 p3 : Pos}
theorem e_callF {ι : Type} {d : PyData} {args : ι → List PyData} {pre : ι → Prop} {out : ι → PyData} {k : Nat} {x : Str} {ps : List Str} (D : Df X.prog X.w X.K X.mg X.base k x ps (spF X.K args pre out)) (i : ι) (hr : Room k X.A) (ha : Ad X tp Γ (e :: es) (args i)) (hp : pre i) (hd : out i = d := by rfl)
    (hg : Gl X x := by rfl) (hdb : (x == ("__debug__" : Str)) = false := by decide) (he : starEach (e :: es) X.env = (false, eval e X.env) :: starEach es X.env := by rfl) (hpl : (backTo pos (starEach es X.env)).any (·.1) = false := by rfl) :
    Ed X tp Γ (.Call (.Name x p2) (e :: es) [] pos) d := e_call D i hr ha hp (fun r h => ⟨_, h, hd⟩) hg hdb he hpl
theorem o_callF {ι : Type} {d : List PyData} {args : ι → List PyData} {pre : ι → Prop} {out : ι → List PyData} {k : Nat} {x : Str} {ps : List Str} (D : Df X.prog X.w X.K X.mg X.base k x ps (spO X.K args pre out)) (i : ι) (hr : Room k X.A) (ha : Ad X tp Γ (e :: es) (args i)) (hp : pre i) (hd : out i = d := by rfl)
    (hg : Gl X x := by rfl) (hdb : (x == ("__debug__" : Str)) = false := by decide) (he : starEach (e :: es) X.env = (false, eval e X.env) :: starEach es X.env := by rfl) (hpl : (backTo pos (starEach es X.env)).any (·.1) = false := by rfl) :
    Od X tp Γ (.Call (.Name x p2) (e :: es) [] pos) d := o_call D i hr ha hp (fun r h => ⟨_, h, hd⟩) hg hdb he hpl
end
theorem joinL_one : ∀ ws : List Nat, TL.joinL [] (ws.map fun c => [c]) = ws
  | [] => rfl
  | [c] => rfl
  | c :: d :: r => congrArg (fun z => c :: z) (joinL_one (d :: r))
theorem join_one (ws : List Nat) : Txt.join ("" : Str) (ws.map fun c => Tx [c]) = Tx ws := by
  have := SX.join_S [] (ws.map fun c => [c])
  rw [joinL_one, List.map_map] at this
  exact this
theorem ones_len (ws : List Nat) : ((ws.map fun c => Tx [c]).map (·.length)).sum = ws.length := by
  induction ws with
  | nil => rfl
  | cons c ws ih => rw [List.map_cons, List.map_cons, List.sum_cons, ih, List.length_cons, tx_len, List.length_singleton, Nat.add_comm]
theorem in_way {W : Ws} {s : Sd} (h : isS W s) : wy W s.1 ≠ [] := fun e => by
  have := h.2
  rw [e] at this
  exact Nat.not_lt_zero _ this
/-- plain facts of the ways -/
structure Wk (W : Ws) : Prop where
  few : W.length ≤ 100
  len : ∀ w ∈ W, w.length ≤ 100
  lt : ∀ w ∈ W, ∀ c ∈ w, Lt c
theorem wy_at {W : Ws} {i : Nat} (h : i < W.length) : W[i]? = some (wy W i) := by
  unfold wy
  rw [List.getD_eq_getElem?_getD, List.getElem?_eq_getElem h]; rfl
theorem wy_mem {W : Ws} {i : Nat} (h : i < W.length) : wy W i ∈ W := List.mem_of_getElem? (wy_at h)
theorem lat_lt {W : Ws} (k : Wk W) {s : Sd} (h : isS W s) (t : Int) : Lt (lat W s t) := k.lt _ (wy_mem h.1) _ (atW_mem (in_way h) _)
theorem atI_ws {W : Ws} {i : Nat} (h : i < W.length) : atI (W.map dW) (i : Int) = some (dW (wy W i)) := by
  exact atI_nat (by rw [List.getElem?_map, wy_at h]; rfl)
theorem atW_atI {w : List Nat} (hw : w ≠ []) (t : Int) : atI w (t % (w.length : Int)) = some (atW w t) := by
  have h := ix_lt hw t
  have h1 := Int.emod_nonneg t (b := (w.length : Int)) (by have := List.length_pos_iff.mpr hw; omega)
  have e : t % (w.length : Int) = ((t % (w.length : Int)).toNat : Int) := by omega
  rw [e]
  refine atI_nat ?_
  unfold atW
  rw [List.getD_eq_getElem?_getD, List.getElem?_eq_getElem h]
  rfl

theorem idx_le : ∀ {l : List Nat} {i c : Nat}, l[i]? = some c → l.idxOf c ≤ i
  | [], i, c, h => by simp at h
  | x :: l, 0, c, h => by
    rw [List.getElem?_cons_zero] at h
    cases h
    rw [List.idxOf_cons_self]
    exact Nat.le_refl 0
  | x :: l, i + 1, c, h => by
    rw [List.getElem?_cons_succ] at h
    rw [List.idxOf_cons]
    have := idx_le h
    cases x == c
    · exact Nat.succ_le_succ this
    · exact Nat.zero_le _
theorem occ_idx {S : List Nat} {c : Nat} (h : c ∈ S) : ∃ r, Builtin.Str.occurrences (Tx S) ⟨#[c]⟩ 0 (Tx S).length 1 = S.idxOf c :: r := by
  have lt := List.idxOf_lt_length_iff.mpr h
  have at1 : S[S.idxOf c]? = some c := by rw [List.getElem?_eq_getElem lt, List.getElem_idxOf]
  rcases PySem.StrLaws.occ_head (Tx S) ⟨#[c]⟩ 1 (Nat.le_refl 1) with ⟨_, no⟩ | ⟨i, r, e, ha, hn⟩
  · exact absurd ((PySem.StrLaws.subAt_one (Tx S) c (S.idxOf c)).mpr at1) (no _)
  · refine ⟨r, ?_⟩
    have hi : S[i]? = some c := (PySem.StrLaws.subAt_one (Tx S) c i).mp ha
    have h1 : ¬ S.idxOf c < i := fun z => hn _ z ((PySem.StrLaws.subAt_one (Tx S) c (S.idxOf c)).mpr at1)
    have h2 : S.idxOf c ≤ i := idx_le hi
    rw [e, show i = S.idxOf c by omega]
section
variable {X : Cx} {tp : TPar} {Γ : List Sl} {tg iter e a b c : Expr} {pos apos p2 p3 q1 q2 q3 : Pos}
theorem e_sidxW {S : List Nat} {c : Nat} (h : Ed X tp Γ e (dW S)) (ha : Ed X tp Γ a (dL c)) (hc : c ∈ S)
    (hs : starEach [a] X.env = [(false, eval a X.env)] := by rfl) (hbase : attributeBase e "index" X.env (eval e X.env) = eval e X.env := by rfl) (hline : (apos.endLine == pos.line) = true := by rfl) :
    Ed X tp Γ (.Call (.Attribute e "index" apos) [a] [] pos) (.int (S.idxOf c : Nat)) := by
  obtain ⟨r, ho⟩ := occ_idx hc
  exact e_sindex h ha ho hs hbase hline
theorem cut_from (S : List Nat) (n : Nat) : cutS (Tx S) (some (n : Int)) none = Tx (S.drop n) := by
  unfold cutS
  rw [HT.sIx_nat, HT.sIx_none, tx_len]
  show Tx ((S.drop (min n S.length)).take (S.length - min n S.length)) = Tx (S.drop n)
  rw [List.take_of_length_le (by rw [List.length_drop]; omega)]
  rcases Nat.le_total n S.length with h | h
  · rw [Nat.min_eq_left h]
  · rw [Nat.min_eq_right h, List.drop_length, List.drop_eq_nil_of_le h]
theorem cut_to (S : List Nat) (n : Nat) : cutS (Tx S) none (some (n : Int)) = Tx (S.take n) := by
  unfold cutS
  rw [HT.sIx_nat, HT.sIx_none, tx_len]
  show Tx ((S.drop 0).take (min n S.length - 0)) = Tx (S.take n)
  rw [List.drop_zero, Nat.sub_zero]
  rcases Nat.le_total n S.length with h | h
  · rw [Nat.min_eq_left h]
  · rw [Nat.min_eq_right h, List.take_length, List.take_of_length_le h]
theorem e_fromW {S : List Nat} {n : Nat} (h : Ed X tp Γ e (dW S)) (ha : Ed X tp Γ a (.int (n : Int))) (hz : S.length ≤ 100000) : Ed X tp Γ (.Subscript e (.Slice (some a) none none p2) pos) (dW (S.drop n)) :=
  e_eq (e_slS h (po_yes ha) po_no (by rw [tx_len]; exact hz)) (congrArg PyData.str (cut_from S n))
theorem e_toW {S : List Nat} {n : Nat} (h : Ed X tp Γ e (dW S)) (ha : Ed X tp Γ a (.int (n : Int))) (hz : S.length ≤ 100000) : Ed X tp Γ (.Subscript e (.Slice none (some a) none p2) pos) (dW (S.take n)) :=
  e_eq (e_slS h po_no (po_yes ha) (by rw [tx_len]; exact hz)) (congrArg PyData.str (cut_to S n))
theorem tx_cat (x y : List Nat) : Tx x ++ Tx y = Tx (x ++ y) := SX.S_cat x y
theorem e_catW {x y : List Nat} (ha : Ed X tp Γ a (dW x)) (hb : Ed X tp Γ b (dW y)) (h : x.length + y.length ≤ 100000) : Ed X tp Γ (.BinOp a .Add b pos) (dW (x ++ y)) :=
  e_eq (e_cat ha hb (by rw [tx_len, tx_len]; unfold sizeLine; omega)) (congrArg PyData.str (tx_cat x y))
theorem e_lenW {w : List Nat} (hm : X.mg "len" = none) (h : Ed X tp Γ e (dW w)) (hz : w.length ≤ 1000000) (hg : Gl X "len" := by rfl) (hs : starEach [e] X.env = (false, eval e X.env) :: starEach [] X.env := by rfl) (hpl : (backTo pos (starEach [] X.env)).any (·.1) = false := by rfl) :
    Ed X tp Γ (.Call (.Name "len" p2) [e] [] pos) (.int (w.length : Nat)) :=
  e_eq (e_len hm h rfl (by rw [tx_len]; exact hz) hg hs hpl) (by rw [tx_len])
theorem e_ixW {w : List Nat} {i : Int} {c : Nat} (ha : Ed X tp Γ a (dW w)) (hb : Ed X tp Γ b (.int i)) (hz : w.length ≤ 100000) (e : atI w i = some c) (hs : PlainIx b := by exact fun _ _ => rfl) : Ed X tp Γ (.Subscript a b pos) (dL c) :=
  e_ixS ha hb (by rw [tx_len]; exact hz) e hs
theorem e_lowL {c : Nat} (h : Ed X tp Γ e (dL c)) (hc : Lt c) (hbase : attributeBase e "lower" X.env (eval e X.env) = eval e X.env := by rfl) (hline : (apos.endLine == pos.line) = true := by rfl) :
    Ed X tp Γ (.Call (.Attribute e "lower" apos) [] [] pos) (dL (low c)) := e_eq (e_lower h (by show 1 ≤ 100000; decide) hbase hline) (congrArg PyData.str (lower1 hc))
theorem i_own {ds : List PyData} (h : Od X tp Γ iter ds) : I X tp Γ tg iter (fun y => y = ds) := i_list (e_mono (e_ofO h) fun d ⟨xs, e1, e2⟩ => ⟨xs, e2, e1⟩)
theorem i_tupD {ds : List PyData} (h : Ed X tp Γ iter (.tuple ds)) : I X tp Γ tg iter (fun y => y = ds) := i_tup (e_mono h fun d e => ⟨ds, e, rfl⟩)
theorem i_listD {ds : List PyData} (h : Ed X tp Γ iter (.list ds)) : I X tp Γ tg iter (fun y => y = ds) := i_list (e_mono h fun d e => ⟨ds, e, rfl⟩)
theorem i_mono {P P' : List PyData → Prop} (h : I X tp Γ tg iter P) (k : ∀ ds, P ds → P' ds) : I X tp Γ tg iter P' := fun B σ G H hv R r => h B σ G H hv R fun ds J G1 H1 hp => r ds J G1 H1 (k ds hp)
def nI (k : Nat) : PyData := .int (k : Int)
theorem i_rngN {n : Nat} (hm : X.mg "range" = none) (h : Ed X tp Γ a (.int (n : Int))) (hn : n < 1000000) (hg : Gl X "range" := by rfl) (hs : starEach [a] X.env = [(false, eval a X.env)] := by rfl) : I X tp Γ tg (.Call (.Name "range" p2) [a] [] pos) (fun ds => ds = (List.range n).map nI) := by
  refine i_mono (i_rng1 (P := fun y => y = .int (n : Int)) hm h (fun d e => ⟨n, e, by omega, by omega⟩) hg hs) fun ds hd => ?_
  obtain ⟨j, ej, rfl⟩ := hd
  cases ej
  unfold rangeD nI
  rw [Int.toNat_natCast]
  exact List.map_congr_left fun k _ => by rw [Int.zero_add]
theorem alikeL (a b : Nat) : alike (dL a) (dL b) = some (decide (a = b)) := by
  show some (decide ((⟨#[a]⟩ : Str) = ⟨#[b]⟩)) = _
  congr 1
  refine decide_eq_decide.mpr ⟨fun h => ?_, fun h => by rw [h]⟩
  have := congrArg (fun z : Str => z.cps.toList) h
  simpa using this
theorem e_ofEq {d d' : PyData} (k : d = d') (h : Ed X tp Γ e d) : Ed X tp Γ e d' := k ▸ h
end
theorem range_at {n k a : Nat} (h : (List.range n)[k]? = some a) : a = k ∧ k < n := by
  rw [List.getElem?_eq_some_iff] at h
  obtain ⟨l, e⟩ := h
  rw [List.getElem_range] at e
  rw [List.length_range] at l
  exact ⟨e.symm, l⟩
end Ly


set_option Elab.async false
set_option linter.all false
set_option maxRecDepth 100000
set_option maxHeartbeats 2000000
namespace Ly
open PySem PySem.Spec PyProof.Rows L2 Evl Rw
section
variable {P : Program} {w : World} {K : PySem.W.Frag} {mg : Str → Option Value} {base : Heap}
abbrev sBackOf : Stmt := topS 2
theorem scBackOf : FnScope ["letter"] ["letter"] (defScope sBackOf) := ⟨rfl, rfl, rfl, by decide +kernel, rfl, by decide +kernel, by decide +kernel⟩
abbrev spBackOf (K : PySem.W.Frag) : Sp := spF K (fun c => [dL c]) Lt (fun c => dL (bk c))
theorem ok_back_of (T : Bl mg) (F : Dt K mg "back_of" sBackOf ["letter"]) : Df P w K mg base 1 "back_of" ["letter"] (spBackOf K) := by
  refine df_mk F scBackOf (fun _ => rfl) fun f cdv A outer s H E hr c hc => ?_
  obtain ⟨t, sm⟩ := T.sm1
  refine s_one (s_ret (P := fun y => y = dL (bk c)) (e_if (t_cmp (c_in (e_var 0) (e_glob sm))) (fun h => ?_) (fun h => ?_)) fun d hd => by rw [hd])
  · rw [small_mem hc] at h
    exact e_eq (e_upper (e_var 0) (by show 1 ≤ 100000; decide)) (congrArg PyData.str (upper1 hc (of_decide_eq_true h.symm)))
  · rw [small_mem hc] at h
    exact e_eq (e_lower (e_var 0) (by show 1 ≤ 100000; decide)) (congrArg PyData.str (lower1B hc (of_decide_eq_false h.symm)))


abbrev sBack : Stmt := topS 3
theorem scBack : FnScope ["word", "sign"] ["word"] (defScope sBack) := ⟨rfl, rfl, rfl, by decide +kernel, rfl, by decide +kernel, by decide +kernel⟩
abbrev spBack (K : PySem.W.Frag) : Sp := spF K (fun w => [dW w]) (fun w => (∀ c ∈ w, Lt c) ∧ w.length ≤ 1000) (fun w => dW (backW w))
theorem ok_back (T : Bl mg) (F : Dt K mg "back" sBack ["word"]) (D1 : Df P w K mg base 1 "back_of" ["letter"] (spBackOf K)) : Df P w K mg base 2 "back" ["word"] (spBack K) := by
  refine df_mk F scBack (fun _ => rfl) fun f cdv A outer s H E hr c hc => ?_
  have nd := scBack.nd
  refine s_one (s_ret (P := fun y => y = dW (backW c)) ?_ fun d hd => by rw [hd])
  refine e_eq (e_join (P := fun y => y = .list (c.reverse.map fun c => dL (bk c))) (ss := (backW c).map fun c => Tx [c]) e_str (ed_ofO (o_map 1 (as := c.reverse) (enc := dL) (fun c => dL (bk c)) (i_strW (e_revW (e_var 0) (by omega))) ?_ fun d hd s H C cl fp => ?_)) ?_ ?_) ?_
  · rw [List.length_reverse]; omega
  · exact e_callF D1 d hr (a_cons (e_var 1) a_nil) (hc.1 d (List.mem_reverse.mp hd))
  · intro d hd
    rw [hd]
    unfold backW
    rw [List.map_map, List.map_map]
    exact .inl rfl
  · rw [ones_len]
    unfold backW
    rw [List.length_map, List.length_map, List.length_reverse]
    show c.length + c.length * 0 ≤ 16777216
    omega
  · rw [join_one]; rfl
abbrev sMoved : Stmt := topS 6
theorem scMoved : FnScope ["ways", "strand", "step", "way", "place"] ["ways", "strand", "step"] (defScope sMoved) := ⟨rfl, rfl, rfl, by decide +kernel, rfl, by decide +kernel, by decide +kernel⟩
abbrev spMoved (K : PySem.W.Frag) : Sp := spF K (fun i : Ws × Sd × Int => [dWs i.1, dS i.2.1, .int i.2.2]) (fun i => Wk i.1 ∧ isS i.1 i.2.1) (fun i => dS (mv i.1 i.2.1 i.2.2))
theorem ok_moved (T : Bl mg) (F : Dt K mg "moved" sMoved ["ways", "strand", "step"]) : Df P w K mg base 1 "moved" ["ways", "strand", "step"] (spMoved K) := by
  refine df_mk F scMoved (fun _ => rfl) fun f cdv A outer s H E hr i hc => ?_
  have nd := scMoved.nd
  obtain ⟨W, x, k⟩ := i
  dsimp only at hc ⊢
  obtain ⟨hk, hx⟩ := hc
  have hl := hk.len _ (wy_mem hx.1)
  have hp : 0 < (wy W x.1).length := Nat.lt_of_le_of_lt (Nat.zero_le _) hx.2
  refine s_cons (s_unp 3 4 (e_var 1) ?_)
  refine s_one (s_ret (P := fun y => y = dS (mv W x k)) ?_ fun d hd => by rw [hd])
  refine e_eq (e_tup (a_cons (e_var 3) (a_cons (e_mod (e_add (e_var 4) (e_var 2)) (e_len T.len (e_ixT (e_var 0) (e_var 3) (atI_ws hx.1)) rfl ?_) ?_) a_nil))) ?_
  · rw [tx_len]; omega
  · rw [tx_len]; omega
  · unfold dS mv
    rw [tx_len, Int.toNat_of_nonneg (Int.emod_nonneg _ (by omega))]
abbrev sLetterAt : Stmt := topS 7
theorem scLetterAt : FnScope ["ways", "strand", "step", "way", "place"] ["ways", "strand", "step"] (defScope sLetterAt) := ⟨rfl, rfl, rfl, by decide +kernel, rfl, by decide +kernel, by decide +kernel⟩
abbrev spLetterAt (K : PySem.W.Frag) : Sp := spF K (fun i : Ws × Sd × Int => [dWs i.1, dS i.2.1, .int i.2.2]) (fun i => Wk i.1 ∧ isS i.1 i.2.1) (fun i => dL (lat i.1 i.2.1 i.2.2))
theorem ok_letter_at (T : Bl mg) (F : Dt K mg "letter_at" sLetterAt ["ways", "strand", "step"]) : Df P w K mg base 1 "letter_at" ["ways", "strand", "step"] (spLetterAt K) := by
  refine df_mk F scLetterAt (fun _ => rfl) fun f cdv A outer s H E hr i hc => ?_
  have nd := scLetterAt.nd
  obtain ⟨W, x, k⟩ := i
  dsimp only at hc ⊢
  obtain ⟨hk, hx⟩ := hc
  have hl := hk.len _ (wy_mem hx.1)
  have hp : 0 < (wy W x.1).length := Nat.lt_of_le_of_lt (Nat.zero_le _) hx.2
  refine s_cons (s_unp 3 4 (e_var 1) ?_)
  refine s_one (s_ret (P := fun y => y = dL (lat W x k)) ?_ fun d hd => by rw [hd])
  refine e_ixS (e_ixT (e_var 0) (e_var 3) (atI_ws hx.1)) (e_mod (e_add (e_var 4) (e_var 2)) (e_len T.len (e_ixT (e_var 0) (e_var 3) (atI_ws hx.1)) rfl ?_) ?_) ?_ ?_
  · rw [tx_len]; omega
  · rw [tx_len]; omega
  · rw [tx_len]; omega
  · rw [tx_len]
    exact atW_atI (in_way hx) _
end
end Ly


set_option Elab.async false
set_option linter.all false
set_option maxRecDepth 100000
set_option maxHeartbeats 2000000
namespace Ly
open PySem PySem.Spec PyProof.Rows L2 Evl Rw
section
variable {P : Program} {w : World} {K : PySem.W.Frag} {mg : Str → Option Value} {base : Heap}
/-- the strands of the first n ways -/
def SO (W : Ws) (n : Nat) : List Sd := (List.range n).flatMap fun i => (List.range (wy W i).length).map fun p => (i, p)
theorem SO_succ (W : Ws) (n : Nat) : SO W (n + 1) = SO W n ++ (List.range (wy W n).length).map fun p => (n, p) := by
  unfold SO
  rw [List.range_succ, List.flatMap_append, List.flatMap_singleton]
theorem SO_len {W : Ws} (k : Wk W) : ∀ n, n ≤ W.length → (SO W n).length ≤ 100 * n
  | 0, _ => Nat.le_refl 0
  | n + 1, h => by
    rw [SO_succ, List.length_append, List.length_map, List.length_range]
    have := SO_len k n (by omega)
    have := k.len _ (wy_mem (show n < W.length by omega))
    omega
theorem strands_is {W : Ws} {s : Sd} (h : s ∈ strandsOf W) : isS W s := by
  unfold strandsOf at h
  obtain ⟨i, hi, h⟩ := List.mem_flatMap.mp h
  obtain ⟨p, hp, rfl⟩ := List.mem_map.mp h
  exact ⟨List.mem_range.mp hi, List.mem_range.mp hp⟩
theorem strands_mem {W : Ws} {s : Sd} (h : isS W s) : s ∈ strandsOf W := by
  unfold strandsOf
  exact List.mem_flatMap.mpr ⟨s.1, List.mem_range.mpr h.1, List.mem_map.mpr ⟨s.2, List.mem_range.mpr h.2, rfl⟩⟩
theorem strands_few {W : Ws} (k : Wk W) : (strandsOf W).length ≤ 10000 := by
  have := SO_len k W.length (Nat.le_refl _)
  have := k.few
  show (SO W W.length).length ≤ 10000
  omega
theorem enum_ways (W : Ws) : enumD (W.map dW) = (List.range W.length).map fun (k : Nat) => .tuple [.int (k : Int), dW (wy W k)] := by
  unfold enumD
  rw [List.length_map]
  refine List.map_congr_left fun k hk => ?_
  rw [List.getD_eq_getElem?_getD, List.getElem?_map, wy_at (List.mem_range.mp hk)]
  rfl
abbrev sStrandsOf : Stmt := topS 8
theorem scStrandsOf : FnScope ["ways", "found", "number", "way", "place"] ["ways"] (defScope sStrandsOf) := ⟨rfl, rfl, rfl, by decide +kernel, rfl, by decide +kernel, by decide +kernel⟩
abbrev spStrandsOf (K : PySem.W.Frag) : Sp := spO K (fun W : Ws => [dWs W]) Wk (fun W => (strandsOf W).map dS)
theorem ok_strands_of (T : Bl mg) (F : Dt K mg "strands_of" sStrandsOf ["ways"]) : Df P w K mg base 1 "strands_of" ["ways"] (spStrandsOf K) := by
  refine df_mk F scStrandsOf (fun _ => rfl) fun f cdv A outer s H E hr W hk => ?_
  have nd := scStrandsOf.nd
  refine s_cons (s_asgO 1 (o_lst a_nil) fun d hd => ?_)
  subst hd
  refine s_cons (s_forM (List.range W.length) (fun (k : Nat) => .tuple [.int (k : Int), dW (wy W k)]) (i_mono (i_enumT T.enum (e_var 0)) fun ds hd => hd.trans (enum_ways W)) (tg_two 2 3)
    (fun k Γ' => ∃ o1 o2 o3, Γ' = [.dat (dWs W), .own ((SO W k).map dS), o1, o2, o3]) ⟨_, _, _, rfl⟩ ?_ ?_)
  · rintro k a hka ha Γ' ⟨o1, o2, o3, rfl⟩
    obtain ⟨rfl, hlt⟩ := range_at hka
    refine ⟨_, ⟨_, _, rfl, rfl⟩, ?_⟩
    have hl := hk.len _ (wy_mem hlt)
    have hl2 := SO_len hk a (by omega)
    have hf := hk.few
    refine s_one (s_extend (P := fun ys => ys = (List.range (wy W a).length).map fun p => dS (a, p)) 1 rfl (o_map 4 (enc := nI) (fun p => dS (a, p)) (i_rngN T.range (e_lenW T.len (e_var 3) (by omega)) (by omega)) (by rw [List.length_range]; omega) fun d hd s H C cl fp => ?_) (fun ys hy => ?_) fun d hd => ?_)
    · exact e_tup (a_cons (e_var 2) (a_cons (e_var 4) a_nil))
    · subst hy
      rw [List.length_map, List.length_map, List.length_range]
      omega
    · subst hd
      show ∃ o1 o2 o3, _ = [_, Sl.own ((SO W (a + 1)).map dS), o1, o2, o3]
      rw [SO_succ, List.map_append, List.map_map]
      exact ⟨_, _, _, rfl⟩
  · rintro Γ' ⟨o1, o2, o3, rfl⟩
    rw [List.length_range]
    exact s_one (s_retM 1 rfl rfl)
abbrev sRoomOf : Stmt := topS 11
theorem scRoomOf : FnScope ["ways", "one", "other"] ["ways", "one", "other"] (defScope sRoomOf) := ⟨rfl, rfl, rfl, by decide +kernel, rfl, by decide +kernel, by decide +kernel⟩
abbrev spRoomOf (K : PySem.W.Frag) : Sp := spF K (fun i : Ws × Sd × Sd => [dWs i.1, dS i.2.1, dS i.2.2]) (fun i => Wk i.1 ∧ isS i.1 i.2.1 ∧ isS i.1 i.2.2) (fun i => .int (room i.1 i.2.1 i.2.2 : Nat))
theorem ok_room_of (T : Bl mg) (F : Dt K mg "room_of" sRoomOf ["ways", "one", "other"]) : Df P w K mg base 1 "room_of" ["ways", "one", "other"] (spRoomOf K) := by
  refine df_mk F scRoomOf (fun _ => rfl) fun f cdv A outer s H E hr i hc => ?_
  have nd := scRoomOf.nd
  obtain ⟨W, x, y⟩ := i
  dsimp only at hc ⊢
  obtain ⟨hk, hx, hy⟩ := hc
  have lx := hk.len _ (wy_mem hx.1)
  have ly := hk.len _ (wy_mem hy.1)
  refine s_one (s_ret (P := fun z => z = .int (room W x y : Nat)) ?_ fun d hd => by rw [hd])
  refine e_eq (e_add (e_lenW T.len (e_ixT (e_var 0) (e_ixT (e_var 1) e_int rfl) (atI_ws hx.1)) (by omega)) (e_lenW T.len (e_ixT (e_var 0) (e_ixT (e_var 2) e_int rfl) (atI_ws hy.1)) (by omega))) ?_
  unfold room
  rw [Int.natCast_add]
abbrev sThrough : Stmt := topS 9
theorem scThrough : FnScope ["ways", "number", "strand"] ["ways", "number"] (defScope sThrough) := ⟨rfl, rfl, rfl, by decide +kernel, rfl, by decide +kernel, by decide +kernel⟩
abbrev spThrough (K : PySem.W.Frag) : Sp := spO K (fun i : Ws × Nat => [dWs i.1, .int (i.2 : Int)]) (fun i => Wk i.1 ∧ i.2 < 6) (fun i => (throughN i.1 i.2).map dS)
theorem small_at {n : Nat} (h : n < 6) : atI ("abcdef" : Str).cps.toList (n : Int) = some (97 + n) := by
  have : n = 0 ∨ n = 1 ∨ n = 2 ∨ n = 3 ∨ n = 4 ∨ n = 5 := by omega
  rcases this with rfl | rfl | rfl | rfl | rfl | rfl <;> decide +kernel
theorem ok_through (T : Bl mg) (F : Dt K mg "strands_through" sThrough ["ways", "number"]) (D1 : Df P w K mg base 1 "strands_of" ["ways"] (spStrandsOf K)) (D2 : Df P w K mg base 1 "letter_at" ["ways", "strand", "step"] (spLetterAt K)) :
    Df P w K mg base 2 "strands_through" ["ways", "number"] (spThrough K) := by
  refine df_mk F scThrough (fun _ => rfl) fun f cdv A outer s H E hr i hc => ?_
  have nd := scThrough.nd
  obtain ⟨W, n⟩ := i
  dsimp only at hc ⊢
  obtain ⟨hk, hn⟩ := hc
  obtain ⟨t, sm⟩ := T.sm2
  refine s_one (s_retO (P := fun z => z = (throughN W n).map dS) ?_ fun d hd => by rw [hd])
  refine o_filt 2 (as := strandsOf W) (enc := dS) (fun s => decide (low (lat W s 0) = 97 + n)) dS (i_own (o_callF D1 W hr (a_cons (e_var 0) a_nil) hk)) ?_ (fun x hx s H C cl fp => ?_) fun x hx hp s H C cl fp => ?_
  · have := strands_few hk
    omega
  · have hs := strands_is hx
    exact t_cmp (c_eq (e_lowL (e_callF D2 (W, x, 0) hr (a_cons (e_var 0) (a_cons (e_var 2) (a_cons e_int a_nil))) ⟨hk, hs⟩) (lat_lt hk hs 0)) (e_ixS (e_glob sm) (e_var 1) (by decide) (small_at hn)) (alikeL _ _))
  · exact e_var 2
abbrev sIsStrand : Stmt := topS 10
theorem scIsStrand : FnScope ["ways", "thing", "one"] ["ways", "thing"] (defScope sIsStrand) := ⟨rfl, rfl, rfl, by decide +kernel, rfl, by decide +kernel, by decide +kernel⟩
abbrev spIsStrand (K : PySem.W.Frag) : Sp := spF K (fun i : Ws × Sd => [dWs i.1, dS i.2]) (fun i => Wk i.1 ∧ isS i.1 i.2) (fun i => .bool true)
theorem ok_is_strand (T : Bl mg) (F : Dt K mg "is_strand" sIsStrand ["ways", "thing"]) : Df P w K mg base 1 "is_strand" ["ways", "thing"] (spIsStrand K) := by
  refine df_mk F scIsStrand (fun _ => rfl) fun f cdv A outer s H E hr i hc => ?_
  have nd := scIsStrand.nd
  obtain ⟨W, x⟩ := i
  dsimp only at hc ⊢
  obtain ⟨hk, hx⟩ := hc
  have lx := hk.len _ (wy_mem hx.1)
  have lw := hk.few
  refine s_cons (s_if (P := fun y => y = (!true || !true)) (t_w (wd_or (t_not (t_val (e_isi (T := "tuple") T.isi T.tuple (by decide +kernel) (e_var 1) (kit_ty (a := "tuple") (b := "tuple") (r := true) (by decide +kernel))))) fun _ => w_or1 (t_cmp (c_ne (e_len T.len (e_var 1) rfl (Nat.le_of_ble_eq_true rfl)) e_int rfl)))) (fun h => nomatch h) fun _ => s_nil ?_)
  refine s_cons (s_if (P := fun y => y = !(true)) (t_not (t_val (e_all (bs := [true, true]) rfl T.all (ed_ofO (o_map 2 (as := [x.1, x.2]) (enc := nI) (fun _ => .bool true) (i_tupD (e_var 1)) (show 2 < 1000000 by decide) fun d hd s H C cl fp => ?_))))) (fun h => nomatch h) fun _ => s_nil ?_)
  · refine e_eq (d := .bool (true && (!false && decide ((0 : Int) ≤ (d : Int))))) (e_and (e_isi (T := "int") T.isi T.int (by decide +kernel) (e_var 2) (kit_ty (a := "int") (b := "int") (r := true) (by decide +kernel))) fun _ => e_and (e_not (e_isi (T := "bool") T.isi T.bool (by decide +kernel) (e_var 2) (kit_ty (a := "int") (b := "bool") (r := false) (by decide +kernel)))) fun _ => e_one (ed_cmp (c_ge (e_var 2) e_int))) ?_
    rw [decide_eq_true (by omega)]
    rfl
  · refine s_one (s_ret (P := fun z => z = .bool true) ?_ fun d hd => by rw [hd])
    refine e_eq (e_and (ed_cmp (c_lt (e_ixT (e_var 1) e_int rfl) (e_len T.len (e_var 0) rfl (by rw [List.length_map]; omega)))) fun _ => e_one (ed_cmp (c_lt (e_ixT (e_var 1) e_int rfl) (e_lenW T.len (e_ixT (e_var 0) (e_ixT (e_var 1) e_int rfl) (atI_ws hx.1)) (by omega))))) ?_
    rw [List.length_map, decide_eq_true (by have := hx.1; omega), decide_eq_true (by have := hx.2; omega)]
    rfl
end
end Ly


set_option Elab.async false
set_option linter.all false
set_option maxRecDepth 100000
set_option maxHeartbeats 2000000
namespace Ly
open PySem PySem.Spec PyProof.Rows L2 Evl Rw
/-- plain facts of surface and ways -/
structure Sk (S : List Nat) (W : Ws) : Prop where
  wk : Wk W
  len : S.length ≤ 1000
  mem : ∀ w ∈ W, ∀ c ∈ w, c ∈ S ∧ bk c ∈ S
theorem lat_in {S : List Nat} {W : Ws} (k : Sk S W) {s : Sd} (h : isS W s) (t : Int) : lat W s t ∈ S := (k.mem _ (wy_mem h.1) _ (atW_mem (in_way h) _)).1
theorem lat_inB {S : List Nat} {W : Ws} (k : Sk S W) {s : Sd} (h : isS W s) (t : Int) : bk (lat W s t) ∈ S := (k.mem _ (wy_mem h.1) _ (atW_mem (in_way h) _)).2
theorem mem_rot {S : List Nat} {c : Nat} (n : Nat) (h : c ∈ S) : c ∈ S.drop n ++ S.take n := by
  rw [← List.take_append_drop n S] at h
  rcases List.mem_append.mp h with h | h
  · exact List.mem_append_right _ h
  · exact List.mem_append_left _ h
theorem lex_slt (x y : Sd) : HT.lexLt [(x.1 : Int), (x.2 : Int)] [(y.1 : Int), (y.2 : Int)] = slt x y := by
  unfold slt
  rw [HT.lexLt_cons, HT.lexLt_cons, HT.lexLt_nil_nil]
  by_cases h1 : x.1 = y.1
  · rw [if_pos (by omega)]
    by_cases h2 : x.2 = y.2
    · rw [if_pos (by omega), decide_eq_false (by omega)]
    · rw [if_neg (by omega)]
      exact decide_eq_decide.mpr (by omega)
  · rw [if_neg (by omega)]
    exact decide_eq_decide.mpr (by omega)
theorem tx1_ne (a b : Nat) : (Tx [a] == Tx [b]) = decide (a = b) := by
  have := SX.S_beq_eq (a := [a]) (b := [b])
  rw [show (Tx [a] == Tx [b]) = (SX.S [a] == SX.S [b]) from rfl, this]
  exact decide_eq_decide.mpr (by simp)
theorem ddT_lt : ∀ (xs acc : List Nat), ((xs.map fun c => Tx [c]).foldl Mx.ddS (acc.map fun c => Tx [c])).length = acc.length + xs.length ↔ xs.Nodup ∧ ∀ x ∈ xs, x ∉ acc := by
  intro xs
  induction xs with
  | nil => intro acc; simp
  | cons x xs ih =>
    intro acc
    rw [List.map_cons, List.foldl_cons]
    have hany : (acc.map fun c => Tx [c]).any (· == Tx [x]) = decide (x ∈ acc) := by
      induction acc with
      | nil => rfl
      | cons a acc ih2 =>
        rw [List.map_cons, List.any_cons, ih2, tx1_ne]
        by_cases h1 : a = x
        · subst h1; simp
        · have : x ≠ a := fun z => h1 z.symm
          simp [h1, this]
    have hle := Mx.ddT_le (xs.map fun c => Tx [c])
    by_cases h : x ∈ acc
    · have e : Mx.ddS (acc.map fun c => Tx [c]) (Tx [x]) = acc.map fun c => Tx [c] := by
        unfold Mx.ddS
        rw [hany, decide_eq_true h, if_pos rfl]
      rw [e]
      have := hle (acc.map fun c => Tx [c])
      rw [List.length_map, List.length_map] at this
      rw [List.length_cons]
      refine ⟨fun z => by omega, fun z => absurd h (z.2 x List.mem_cons_self)⟩
    · have e : Mx.ddS (acc.map fun c => Tx [c]) (Tx [x]) = (acc ++ [x]).map fun c => Tx [c] := by
        unfold Mx.ddS
        rw [hany, decide_eq_false h, if_neg Bool.false_ne_true, List.map_append, List.map_singleton]
      rw [e, List.length_cons]
      have := ih (acc ++ [x])
      rw [List.length_append, List.length_singleton] at this
      rw [show acc.length + (xs.length + 1) = acc.length + 1 + xs.length by omega, this, List.nodup_cons]
      constructor
      · rintro ⟨h1, h2⟩
        refine ⟨⟨fun z => h2 x z (by simp), h1⟩, fun y hy z => ?_⟩
        rcases List.mem_cons.mp hy with rfl | hy
        · exact h z
        · exact h2 y hy (by simp [z])
      · rintro ⟨⟨h1, h2⟩, h3⟩
        refine ⟨h2, fun y hy z => ?_⟩
        rcases List.mem_append.mp z with z | z
        · exact h3 y (List.mem_cons_of_mem _ hy) z
        · rw [List.mem_singleton.mp z] at hy
          exact h1 hy
theorem ddT_four (a b c d : Nat) : decide (((Mx.ddT ([a, b, c, d].map fun c => Tx [c])).length : Int) < 4) = !decide ([a, b, c, d].Nodup) := by
  have h := ddT_lt [a, b, c, d] []
  have h2 := Mx.ddT_le ([a, b, c, d].map fun c => Tx [c]) []
  rw [List.length_nil] at h2
  have h3 : (Mx.ddT ([a, b, c, d].map fun c => Tx [c])).length ≤ 4 := by
    unfold Mx.ddT
    simpa using h2
  have e : (Mx.ddT ([a, b, c, d].map fun c => Tx [c])).length = 4 ↔ [a, b, c, d].Nodup := by
    refine h.trans ?_
    simp
  by_cases hn : [a, b, c, d].Nodup
  · rw [decide_eq_true hn, e.mpr hn]; rfl
  · rw [decide_eq_false hn, decide_eq_true (by
      have : (Mx.ddT ([a, b, c, d].map fun c => Tx [c])).length ≠ 4 := fun z => hn (e.mp z)
      omega)]
    rfl
abbrev spComes (K : PySem.W.Frag) : Sp := spF K (fun i : List Nat × Nat × Nat × Nat => [dW i.1, dL i.2.1, dL i.2.2.1, dL i.2.2.2]) (fun i => i.1.length ≤ 1000 ∧ i.2.1 ∈ i.1 ∧ i.2.2.1 ∈ i.1 ∧ i.2.2.2 ∈ i.1) (fun i => .bool (cf i.1 i.2.1 i.2.2.1 i.2.2.2))
section
variable {X : Cx} {tp : TPar} {Γ : List Sl} {tg iter e a b c : Expr} {pos apos p2 p3 q1 q2 q3 : Pos} {op : CmpOp}
theorem cm_b {k k' : Bool} (h : Cm X tp Γ op a b (fun y => y = k)) (e : k = k') : Cm X tp Γ op a b (fun y => y = k') := e ▸ h
theorem c_ltS {x y : Sd} (hu : X.A.units < cLine) (ha : Ed X tp Γ a (dS x)) (hb : Ed X tp Γ b (dS y)) : Cm X tp Γ .Lt a b (fun z => z = slt x y) :=
  cm_b (c_ltT (ns := [(x.1 : Int), (x.2 : Int)]) (ms := [(y.1 : Int), (y.2 : Int)]) hu ha hb) (lex_slt x y)
theorem c_eqL {x y : Nat} (ha : Ed X tp Γ a (dL x)) (hb : Ed X tp Γ b (dL y)) : Cm X tp Γ .Eq a b (fun z => z = decide (x = y)) := c_eq ha hb (alikeL x y)
theorem c_eqB {x y : Bool} (ha : Ed X tp Γ a (.bool x)) (hb : Ed X tp Γ b (.bool y)) : Cm X tp Γ .Eq a b (fun z => z = (x == y)) := cm_b (c_eq ha hb rfl) (by cases x <;> cases y <;> rfl)
theorem c_neB {x y : Bool} (ha : Ed X tp Γ a (.bool x)) (hb : Ed X tp Γ b (.bool y)) : Cm X tp Γ .NotEq a b (fun z => z = (x != y)) := cm_b (c_ne ha hb rfl) (by cases x <;> cases y <;> rfl)
theorem c_ltN {i j : Nat} (ha : Ed X tp Γ a (.int (i : Int))) (hb : Ed X tp Γ b (.int (j : Int))) : Cm X tp Γ .Lt a b (fun y => y = decide (i < j)) := cm_b (c_lt ha hb) (decide_eq_decide.mpr (by omega))
theorem e_bkL {x : Nat} (D : Df X.prog X.w X.K X.mg X.base 2 "back" ["word"] (spBack X.K)) (hr : Room 2 X.A) (h : Ed X tp Γ a (dL x)) (hx : Lt x)
    (hg : Gl X "back" := by rfl) (he : starEach [a] X.env = (false, eval a X.env) :: starEach [] X.env := by rfl) (hpl : (backTo pos (starEach [] X.env)).any (·.1) = false := by rfl) :
    Ed X tp Γ (.Call (.Name "back" p2) [a] [] pos) (dL (bk x)) :=
  e_callF D [x] hr (a_cons h a_nil he) ⟨fun c hc => by rw [List.mem_singleton.mp hc]; exact hx, by show 1 ≤ 1000; decide⟩ rfl hg (by decide) he hpl
/-- letter_at(ways, strand, k) -/
theorem e_latC {W : Ws} {x : Sd} {k : Int} (D : Df X.prog X.w X.K X.mg X.base 1 "letter_at" ["ways", "strand", "step"] (spLetterAt X.K)) (hr : Room 1 X.A) (hk : Wk W) (hx : isS W x) (ha : Ed X tp Γ a (dWs W)) (hb : Ed X tp Γ b (dS x)) (hc : Ed X tp Γ c (.int k))
    (hg : Gl X "letter_at" := by rfl) (h1 : starEach [a, b, c] X.env = (false, eval a X.env) :: starEach [b, c] X.env := by rfl) (h2 : starEach [b, c] X.env = (false, eval b X.env) :: starEach [c] X.env := by rfl) (h3 : starEach [c] X.env = (false, eval c X.env) :: starEach [] X.env := by rfl) (hpl : (backTo pos (starEach [b, c] X.env)).any (·.1) = false := by rfl) :
    Ed X tp Γ (.Call (.Name "letter_at" p2) [a, b, c] [] pos) (dL (lat W x k)) :=
  e_callF D (W, x, k) hr (a_cons ha (a_cons hb (a_cons hc a_nil h3) h2) h1) ⟨hk, hx⟩ rfl hg (by decide) h1 hpl
theorem e_mvC {W : Ws} {x : Sd} {k : Int} (D : Df X.prog X.w X.K X.mg X.base 1 "moved" ["ways", "strand", "step"] (spMoved X.K)) (hr : Room 1 X.A) (hk : Wk W) (hx : isS W x) (ha : Ed X tp Γ a (dWs W)) (hb : Ed X tp Γ b (dS x)) (hc : Ed X tp Γ c (.int k))
    (hg : Gl X "moved" := by rfl) (h1 : starEach [a, b, c] X.env = (false, eval a X.env) :: starEach [b, c] X.env := by rfl) (h2 : starEach [b, c] X.env = (false, eval b X.env) :: starEach [c] X.env := by rfl) (h3 : starEach [c] X.env = (false, eval c X.env) :: starEach [] X.env := by rfl) (hpl : (backTo pos (starEach [b, c] X.env)).any (·.1) = false := by rfl) :
    Ed X tp Γ (.Call (.Name "moved" p2) [a, b, c] [] pos) (dS (mv W x k)) :=
  e_callF D (W, x, k) hr (a_cons ha (a_cons hb (a_cons hc a_nil h3) h2) h1) ⟨hk, hx⟩ rfl hg (by decide) h1 hpl
theorem e_rmC {W : Ws} {x y : Sd} (D : Df X.prog X.w X.K X.mg X.base 1 "room_of" ["ways", "one", "other"] (spRoomOf X.K)) (hr : Room 1 X.A) (hk : Wk W) (hx : isS W x) (hy : isS W y) (ha : Ed X tp Γ a (dWs W)) (hb : Ed X tp Γ b (dS x)) (hc : Ed X tp Γ c (dS y))
    (hg : Gl X "room_of" := by rfl) (h1 : starEach [a, b, c] X.env = (false, eval a X.env) :: starEach [b, c] X.env := by rfl) (h2 : starEach [b, c] X.env = (false, eval b X.env) :: starEach [c] X.env := by rfl) (h3 : starEach [c] X.env = (false, eval c X.env) :: starEach [] X.env := by rfl) (hpl : (backTo pos (starEach [b, c] X.env)).any (·.1) = false := by rfl) :
    Ed X tp Γ (.Call (.Name "room_of" p2) [a, b, c] [] pos) (.int (room W x y : Nat)) :=
  e_callF D (W, x, y) hr (a_cons ha (a_cons hb (a_cons hc a_nil h3) h2) h1) ⟨hk, hx, hy⟩ rfl hg (by decide) h1 hpl
/-- comes_first(surface, b, o, r) -/
theorem e_cfC {d : Expr} {S : List Nat} {i j l : Nat} (D : Df X.prog X.w X.K X.mg X.base 1 "comes_first" ["surface", "begin", "one", "other"] (spComes X.K)) (hr : Room 1 X.A) (hS : S.length ≤ 1000) (hi : i ∈ S) (hj : j ∈ S) (hl : l ∈ S) (ha : Ed X tp Γ a (dW S)) (hb : Ed X tp Γ b (dL i)) (hc : Ed X tp Γ c (dL j)) (hd : Ed X tp Γ d (dL l))
    (hg : Gl X "comes_first" := by rfl) (h1 : starEach [a, b, c, d] X.env = (false, eval a X.env) :: starEach [b, c, d] X.env := by rfl) (h2 : starEach [b, c, d] X.env = (false, eval b X.env) :: starEach [c, d] X.env := by rfl) (h3 : starEach [c, d] X.env = (false, eval c X.env) :: starEach [d] X.env := by rfl) (h4 : starEach [d] X.env = (false, eval d X.env) :: starEach [] X.env := by rfl) (hpl : (backTo pos (starEach [b, c, d] X.env)).any (·.1) = false := by rfl) :
    Ed X tp Γ (.Call (.Name "comes_first" p2) [a, b, c, d] [] pos) (.bool (cf S i j l)) :=
  e_callF D (S, i, j, l) hr (a_cons ha (a_cons hb (a_cons hc (a_cons hd a_nil h4) h3) h2) h1) ⟨hS, hi, hj, hl⟩ rfl hg (by decide) h1 hpl
theorem e_m1 {p4 : Pos} {j : Nat} : Ed X tp Γ (.UnaryOp .USub (.Constant (.int 1) j p4) pos) (.int (-1)) := e_neg e_int
end
section
variable {P : Program} {w : World} {K : PySem.W.Frag} {mg : Str → Option Value} {base : Heap}
abbrev sComes : Stmt := topS 13
theorem scComes : FnScope ["surface", "begin", "one", "other", "at", "row"] ["surface", "begin", "one", "other"] (defScope sComes) := ⟨rfl, rfl, rfl, by decide +kernel, rfl, by decide +kernel, by decide +kernel⟩
theorem ok_comes (T : Bl mg) (F : Dt K mg "comes_first" sComes ["surface", "begin", "one", "other"]) : Df P w K mg base 1 "comes_first" ["surface", "begin", "one", "other"] (spComes K) := by
  refine df_mk F scComes (fun _ => rfl) fun f cdv A outer s H E hr i hc => ?_
  have nd := scComes.nd
  obtain ⟨S, b, o, r⟩ := i
  dsimp only at hc ⊢
  obtain ⟨hS, hb, ho, hq⟩ := hc
  refine s_cons (s_asg 4 (P := fun y => y = .int (S.idxOf b : Nat)) (e_sidxW (e_var 0) (e_var 1) hb) fun d hd => ?_)
  subst hd
  refine s_cons (s_asg 5 (P := fun y => y = dW (S.drop (S.idxOf b) ++ S.take (S.idxOf b))) (e_catW (e_fromW (e_var 0) (e_var 4) (by omega)) (e_toW (e_var 0) (e_var 4) (by omega)) ?_) fun d hd => ?_)
  · rw [List.length_drop, List.length_take]; omega
  subst hd
  refine s_one (s_ret (P := fun z => z = .bool (cf S b o r)) ?_ fun d hd => by rw [hd])
  exact ed_cmp (c_ltN (e_sidxW (e_var 5) (e_var 2) (mem_rot _ ho)) (e_sidxW (e_var 5) (e_var 3) (mem_rot _ hq)))
abbrev sBeside : Stmt := topS 14
theorem scBeside : FnScope ["surface", "ways", "one", "other", "first", "last", "begin", "end"] ["surface", "ways", "one", "other"] (defScope sBeside) := ⟨rfl, rfl, rfl, by decide +kernel, rfl, by decide +kernel, by decide +kernel⟩
abbrev spBeside (K : PySem.W.Frag) : Sp := spF K (fun i : List Nat × Ws × Sd × Sd => [dW i.1, dWs i.2.1, dS i.2.2.1, dS i.2.2.2]) (fun i => Sk i.1 i.2.1 ∧ isS i.2.1 i.2.2.1 ∧ isS i.2.1 i.2.2.2) (fun i => .bool (isBeside i.1 i.2.1 i.2.2.1 i.2.2.2))
theorem ok_beside (T : Bl mg) (F : Dt K mg "is_beside" sBeside ["surface", "ways", "one", "other"]) (Db : Df P w K mg base 2 "back" ["word"] (spBack K)) (Dl : Df P w K mg base 1 "letter_at" ["ways", "strand", "step"] (spLetterAt K))
    (Dc : Df P w K mg base 1 "comes_first" ["surface", "begin", "one", "other"] (spComes K)) : Df P w K mg base 3 "is_beside" ["surface", "ways", "one", "other"] (spBeside K) := by
  refine df_mk F scBeside (fun _ => rfl) fun f cdv A outer s H E hr i hc => ?_
  have nd := scBeside.nd
  obtain ⟨S, W, x, y⟩ := i
  dsimp only at hc ⊢
  obtain ⟨hk, hx, hy⟩ := hc
  have hr1 := hr.mono (show 1 ≤ 2 by decide)
  refine s_cons (s_par 4 5 (e_bkL Db hr (e_callF Dl (W, x, 0) hr1 (a_cons (e_var 1) (a_cons (e_var 2) (a_cons e_int a_nil))) ⟨hk.wk, hx⟩) (lat_lt hk.wk hx 0)) (e_callF Dl (W, x, 1) hr1 (a_cons (e_var 1) (a_cons (e_var 2) (a_cons e_int a_nil))) ⟨hk.wk, hx⟩) ?_)
  refine s_cons (s_par 6 7 (e_bkL Db hr (e_callF Dl (W, y, 0) hr1 (a_cons (e_var 1) (a_cons (e_var 3) (a_cons e_int a_nil))) ⟨hk.wk, hy⟩) (lat_lt hk.wk hy 0)) (e_callF Dl (W, y, 1) hr1 (a_cons (e_var 1) (a_cons (e_var 3) (a_cons e_int a_nil))) ⟨hk.wk, hy⟩) ?_)
  have i1 := lat_inB hk hx 0
  have i2 := lat_in hk hx 1
  have i3 := lat_inB hk hy 0
  have i4 := lat_in hk hy 1
  refine s_cons (s_if (P := fun z => z = (!(slt x y) || !decide ([bk (lat W x 0), lat W x 1, bk (lat W y 0), lat W y 1].Nodup))) ?_ (fun h => ?_) fun h => s_nil ?_)
  · refine t_w (wd_or (t_not (t_cmp (c_ltS hr.units0 (e_var 2) (e_var 3)))) fun _ => w_or1 (t_cmp (cm_b (c_lt (e_lenSet (xs := [bk (lat W x 0), lat W x 1, bk (lat W y 0), lat W y 1].map fun c => Tx [c]) rfl T.len T.set (o_lst (a_cons (e_var 4) (a_cons (e_var 5) (a_cons (e_var 6) (a_cons (e_var 7) a_nil))))) ?_) e_int) (ddT_four _ _ _ _))))
    show 4 < 1000
    decide
  · refine s_one (s_ret (P := fun z => z = .bool false) e_bl fun d hd => ?_)
    rw [hd]
    unfold isBeside
    cases h1 : slt x y <;> cases h2 : decide ([bk (lat W x 0), lat W x 1, bk (lat W y 0), lat W y 1].Nodup) <;> first | rfl | (rw [h1, h2] at h; cases h)
  · refine s_one (s_ret (P := fun z => z = .bool (isBeside S W x y)) ?_ fun d hd => by rw [hd])
    refine e_eq (ed_cmp (c_neB (e_callF Dc (S, bk (lat W x 0), bk (lat W y 0), lat W x 1) hr1 (a_cons (e_var 0) (a_cons (e_var 4) (a_cons (e_var 6) (a_cons (e_var 5) a_nil)))) ⟨hk.len, i1, i3, i2⟩)
      (e_callF Dc (S, bk (lat W x 0), lat W y 1, lat W x 1) hr1 (a_cons (e_var 0) (a_cons (e_var 4) (a_cons (e_var 7) (a_cons (e_var 5) a_nil)))) ⟨hk.len, i1, i4, i2⟩))) ?_
    unfold isBeside
    cases h1 : slt x y <;> cases h2 : decide ([bk (lat W x 0), lat W x 1, bk (lat W y 0), lat W y 1].Nodup) <;> first | rfl | (rw [h1, h2] at h; cases h)
end
end Ly


set_option Elab.async false
set_option linter.all false
set_option maxRecDepth 100000
set_option maxHeartbeats 2000000
namespace Ly
open PySem PySem.Spec PyProof.Rows L2 Evl Rw
theorem not_t {b : Bool} (h : true = !b) : b = false := by cases b; rfl; cases h
theorem not_f {b : Bool} (h : false = !b) : b = true := by cases b; cases h; rfl
theorem or_f {a b : Bool} (h : false = (!a || !b)) : a = true ∧ b = true := by cases a <;> cases b <;> first | exact ⟨rfl, rfl⟩ | cases h
theorem all_map_id {α : Type} (l : List α) (f : α → Bool) : (l.map f).all id = l.all f := by
  rw [List.all_map]; rfl
section
variable {P : Program} {w : World} {K : PySem.W.Frag} {mg : Str → Option Value} {base : Heap}
abbrev sAlong : Stmt := topS 15
abbrev nAlong : List Str := ["surface", "ways", "one", "other", "many", "k", "here", "there", "ahead", "from_one", "from_other"]
theorem scAlong : FnScope nAlong ["surface", "ways", "one", "other", "many"] (defScope sAlong) := ⟨rfl, rfl, rfl, by decide +kernel, rfl, by decide +kernel, by decide +kernel⟩
abbrev spAlong (K : PySem.W.Frag) : Sp := spF K (fun i : List Nat × Ws × Sd × Sd × Nat => [dW i.1, dWs i.2.1, dS i.2.2.1, dS i.2.2.2.1, .int (i.2.2.2.2 : Int)]) (fun i => Sk i.1 i.2.1 ∧ isS i.2.1 i.2.2.1 ∧ isS i.2.1 i.2.2.2.1) (fun i => .bool (isAlong i.1 i.2.1 i.2.2.1 i.2.2.2.1 i.2.2.2.2))
theorem ok_along (T : Bl mg) (F : Dt K mg "is_along" sAlong ["surface", "ways", "one", "other", "many"]) (Db : Df P w K mg base 2 "back" ["word"] (spBack K)) (Dl : Df P w K mg base 1 "letter_at" ["ways", "strand", "step"] (spLetterAt K))
    (Dr : Df P w K mg base 1 "room_of" ["ways", "one", "other"] (spRoomOf K)) (Dc : Df P w K mg base 1 "comes_first" ["surface", "begin", "one", "other"] (spComes K)) : Df P w K mg base 3 "is_along" ["surface", "ways", "one", "other", "many"] (spAlong K) := by
  refine df_mk F scAlong (fun _ => rfl) fun f cdv A outer s H E hr i hc => ?_
  have nd := scAlong.nd
  obtain ⟨S, W, x, y, m⟩ := i
  dsimp only at hc ⊢
  obtain ⟨hk, hx, hy⟩ := hc
  have hr1 := hr.mono (show 1 ≤ 2 by decide)
  have lx := hk.wk.len _ (wy_mem hx.1)
  have ly := hk.wk.len _ (wy_mem hy.1)
  refine s_cons (s_if (P := fun z => z = (!(slt x y) || !decide (m ≤ room W x y))) ?_ (fun h => ?_) fun h => s_nil ?_)
  · refine t_w (wd_or (t_not (t_cmp (c_ltS hr.units0 (e_var 2) (e_var 3)))) fun _ => w_or1 (t_cmp (cm_b (c_gt (e_var 4) (e_rmC Dr hr1 hk.wk hx hy (e_var 1) (e_var 2) (e_var 3))) ?_)))
    by_cases z : m ≤ room W x y
    · rw [decide_eq_true z, decide_eq_false (by omega)]; rfl
    · rw [decide_eq_false z, decide_eq_true (by omega)]; rfl
  · refine s_one (s_ret (P := fun z => z = .bool false) e_bl fun d hd => ?_)
    rw [hd]
    unfold isAlong
    cases h1 : slt x y <;> cases h2 : decide (m ≤ room W x y) <;> first | rfl | (rw [h1, h2] at h; cases h)
  obtain ⟨b1, b2⟩ := or_f h
  have hm : m ≤ 200 := by
    have := of_decide_eq_true b2
    unfold room at this
    omega
  refine s_cons (s_if (P := fun z => z = !((List.range m).all (fun (k : Nat) => decide (lat W x k = lat W y k)))) ?_ (fun h => ?_) fun h => s_nil ?_)
  · refine t_not (t_val (e_eq (e_all (bs := (List.range m).map fun (k : Nat) => decide (lat W x k = lat W y k)) rfl T.all (e_eq (ed_ofO (o_map 5 (as := List.range m) (enc := nI) (fun (k : Nat) => .bool (decide (lat W x k = lat W y k))) (i_rngN T.range (e_var 4) (by omega)) (by rw [List.length_range]; omega) fun d hd s H C cl fp => ?_)) ?_)) (congrArg PyData.bool (all_map_id _ _))))
    · exact ed_cmp (c_eqL (e_latC Dl hr1 hk.wk hx (e_var 1) (e_var 2) (e_var 5)) (e_latC Dl hr1 hk.wk hy (e_var 1) (e_var 3) (e_var 5)))
    · rw [List.map_map]; rfl
  · refine s_one (s_ret (P := fun z => z = .bool false) e_bl fun d hd => ?_)
    have h' : (List.range m).all (fun (k : Nat) => decide (lat W x k = lat W y k)) = false := not_t h
    rw [hd]
    unfold isAlong
    rw [b1, b2, h']
    rfl
  have b3 : (List.range m).all (fun (k : Nat) => decide (lat W x k = lat W y k)) = true := not_f h
  refine s_cons (s_if (P := fun z => z = decide (lat W x (-1) = lat W y (-1))) ?_ (fun h => ?_) fun h => s_nil ?_)
  · exact t_cmp (c_eqL (e_latC Dl hr1 hk.wk hx (e_var 1) (e_var 2) e_m1) (e_latC Dl hr1 hk.wk hy (e_var 1) (e_var 3) e_m1))
  · refine s_one (s_ret (P := fun z => z = .bool false) e_bl fun d hd => ?_)
    have h' := of_decide_eq_true h.symm
    rw [hd]
    unfold isAlong
    rw [b1, b2, b3, decide_eq_false (fun z => z h')]
    rfl
  have b4 : decide (lat W x (-1) ≠ lat W y (-1)) = true := decide_eq_true (of_decide_eq_false h.symm)
  refine s_cons (s_par 6 7 (e_latC Dl hr1 hk.wk hx (e_var 1) (e_var 2) (e_var 4)) (e_latC Dl hr1 hk.wk hy (e_var 1) (e_var 3) (e_var 4)) ?_)
  refine s_cons (s_if (P := fun z => z = decide (lat W x m = lat W y m)) (t_cmp (c_eqL (e_var 6) (e_var 7))) (fun h => ?_) fun h => s_nil ?_)
  · refine s_one (s_ret (P := fun z => z = .bool false) e_bl fun d hd => ?_)
    have h' := of_decide_eq_true h.symm
    rw [hd]
    unfold isAlong
    rw [b1, b2, b3, b4, decide_eq_false (fun z => z h')]
    rfl
  have b5 : decide (lat W x m ≠ lat W y m) = true := decide_eq_true (of_decide_eq_false h.symm)
  refine s_cons (s_asg 8 (P := fun z => z = .bool (cf S (bk (lat W x ((m : Int) - 1))) (lat W x m) (lat W y m))) (e_cfC Dc hr1 hk.len (lat_inB hk hx _) (lat_in hk hx _) (lat_in hk hy _) (e_var 0) (e_bkL Db hr (e_latC Dl hr1 hk.wk hx (e_var 1) (e_var 2) (e_sub (e_var 4) e_int)) (lat_lt hk.wk hx _)) (e_var 6) (e_var 7)) fun d hd => ?_)
  subst hd
  refine s_cons (s_par 9 10 (e_bkL Db hr (e_latC Dl hr1 hk.wk hx (e_var 1) (e_var 2) e_m1) (lat_lt hk.wk hx _)) (e_bkL Db hr (e_latC Dl hr1 hk.wk hy (e_var 1) (e_var 3) e_m1) (lat_lt hk.wk hy _)) ?_)
  refine s_one (s_ret (P := fun z => z = .bool (isAlong S W x y m)) ?_ fun d hd => by rw [hd])
  refine e_eq (ed_cmp (c_eqB (e_var 8) (e_cfC Dc hr1 hk.len (lat_in hk hx 0) (lat_inB hk hx (-1)) (lat_inB hk hy (-1)) (e_var 0) (e_latC Dl hr1 hk.wk hx (e_var 1) (e_var 2) e_int) (e_var 9) (e_var 10)))) ?_
  unfold isAlong
  rw [b1, b2, b3, b4, b5]
  rfl
abbrev sAgainst : Stmt := topS 16
theorem scAgainst : FnScope nAlong ["surface", "ways", "one", "other", "many"] (defScope sAgainst) := ⟨rfl, rfl, rfl, by decide +kernel, rfl, by decide +kernel, by decide +kernel⟩
theorem mv_isS {W : Ws} {s : Sd} (h : isS W s) (k : Int) : isS W (mv W s k) := ⟨h.1, ix_lt (in_way h) _⟩
abbrev spAgainst (K : PySem.W.Frag) : Sp := spF K (fun i : List Nat × Ws × Sd × Sd × Nat => [dW i.1, dWs i.2.1, dS i.2.2.1, dS i.2.2.2.1, .int (i.2.2.2.2 : Int)]) (fun i => Sk i.1 i.2.1 ∧ isS i.2.1 i.2.2.1 ∧ isS i.2.1 i.2.2.2.1) (fun i => .bool (isAgainst i.1 i.2.1 i.2.2.1 i.2.2.2.1 i.2.2.2.2))
theorem ok_against (T : Bl mg) (F : Dt K mg "is_against" sAgainst ["surface", "ways", "one", "other", "many"]) (Db : Df P w K mg base 2 "back" ["word"] (spBack K)) (Dl : Df P w K mg base 1 "letter_at" ["ways", "strand", "step"] (spLetterAt K)) (Dm : Df P w K mg base 1 "moved" ["ways", "strand", "step"] (spMoved K))
    (Dr : Df P w K mg base 1 "room_of" ["ways", "one", "other"] (spRoomOf K)) (Dc : Df P w K mg base 1 "comes_first" ["surface", "begin", "one", "other"] (spComes K)) : Df P w K mg base 3 "is_against" ["surface", "ways", "one", "other", "many"] (spAgainst K) := by
  refine df_mk F scAgainst (fun _ => rfl) fun f cdv A outer s H E hr i hc => ?_
  have nd := scAgainst.nd
  obtain ⟨S, W, x, y, m⟩ := i
  dsimp only at hc ⊢
  obtain ⟨hk, hx, hy⟩ := hc
  have hr1 := hr.mono (show 1 ≤ 2 by decide)
  have lx := hk.wk.len _ (wy_mem hx.1)
  have ly := hk.wk.len _ (wy_mem hy.1)
  refine s_cons (s_if (P := fun z => z = (!decide (m ≤ room W x y) || !(slt x (mv W y (1 - (m : Int)))))) ?_ (fun h => ?_) fun h => s_nil ?_)
  · refine t_w (wd_or (t_eq (t_cmp (c_gt (e_var 4) (e_rmC Dr hr1 hk.wk hx hy (e_var 1) (e_var 2) (e_var 3)))) ?_) fun _ => w_or1 (t_not (t_cmp (c_ltS hr.units0 (e_var 2) (e_mvC Dm hr1 hk.wk hy (e_var 1) (e_var 3) (e_sub e_int (e_var 4)))))))
    by_cases z : m ≤ room W x y
    · rw [decide_eq_true z, decide_eq_false (by omega)]; rfl
    · rw [decide_eq_false z, decide_eq_true (by omega)]; rfl
  · refine s_one (s_ret (P := fun z => z = .bool false) e_bl fun d hd => ?_)
    rw [hd]
    unfold isAgainst
    cases h1 : slt x (mv W y (1 - (m : Int))) <;> cases h2 : decide (m ≤ room W x y) <;> first | rfl | (rw [h1, h2] at h; cases h)
  obtain ⟨b2, b1⟩ := or_f h
  have hm : m ≤ 200 := by
    have := of_decide_eq_true b2
    unfold room at this
    omega
  refine s_cons (s_if (P := fun z => z = !((List.range m).all (fun (k : Nat) => decide (lat W x k = bk (lat W y (-(k : Int))))))) ?_ (fun h => ?_) fun h => s_nil ?_)
  · refine t_not (t_val (e_eq (e_all (bs := (List.range m).map fun (k : Nat) => decide (lat W x k = bk (lat W y (-(k : Int))))) rfl T.all (e_eq (ed_ofO (o_map 5 (as := List.range m) (enc := nI) (fun (k : Nat) => .bool (decide (lat W x k = bk (lat W y (-(k : Int)))))) (i_rngN T.range (e_var 4) (by omega)) (by rw [List.length_range]; omega) fun d hd s H C cl fp => ?_)) ?_)) (congrArg PyData.bool (all_map_id _ _))))
    · exact ed_cmp (c_eqL (e_latC Dl hr1 hk.wk hx (e_var 1) (e_var 2) (e_var 5)) (e_bkL Db hr (e_latC Dl hr1 hk.wk hy (e_var 1) (e_var 3) (e_neg (e_var 5))) (lat_lt hk.wk hy _)))
    · rw [List.map_map]; rfl
  · refine s_one (s_ret (P := fun z => z = .bool false) e_bl fun d hd => ?_)
    have h' : (List.range m).all (fun (k : Nat) => decide (lat W x k = bk (lat W y (-(k : Int))))) = false := not_t h
    rw [hd]
    unfold isAgainst
    rw [b1, b2, h']
    rfl
  have b3 : (List.range m).all (fun (k : Nat) => decide (lat W x k = bk (lat W y (-(k : Int))))) = true := not_f h
  refine s_cons (s_if (P := fun z => z = decide (lat W x (-1) = bk (lat W y 1))) ?_ (fun h => ?_) fun h => s_nil ?_)
  · exact t_cmp (c_eqL (e_latC Dl hr1 hk.wk hx (e_var 1) (e_var 2) e_m1) (e_bkL Db hr (e_latC Dl hr1 hk.wk hy (e_var 1) (e_var 3) e_int) (lat_lt hk.wk hy _)))
  · refine s_one (s_ret (P := fun z => z = .bool false) e_bl fun d hd => ?_)
    have h' := of_decide_eq_true h.symm
    rw [hd]
    unfold isAgainst
    rw [b1, b2, b3, decide_eq_false (fun z => z h')]
    rfl
  have b4 : decide (lat W x (-1) ≠ bk (lat W y 1)) = true := decide_eq_true (of_decide_eq_false h.symm)
  refine s_cons (s_par 6 7 (e_latC Dl hr1 hk.wk hx (e_var 1) (e_var 2) (e_var 4)) (e_bkL Db hr (e_latC Dl hr1 hk.wk hy (e_var 1) (e_var 3) (e_neg (e_var 4))) (lat_lt hk.wk hy _)) ?_)
  refine s_cons (s_if (P := fun z => z = decide (lat W x m = bk (lat W y (-(m : Int))))) (t_cmp (c_eqL (e_var 6) (e_var 7))) (fun h => ?_) fun h => s_nil ?_)
  · refine s_one (s_ret (P := fun z => z = .bool false) e_bl fun d hd => ?_)
    have h' := of_decide_eq_true h.symm
    rw [hd]
    unfold isAgainst
    rw [b1, b2, b3, b4, decide_eq_false (fun z => z h')]
    rfl
  have b5 : decide (lat W x m ≠ bk (lat W y (-(m : Int)))) = true := decide_eq_true (of_decide_eq_false h.symm)
  refine s_cons (s_asg 8 (P := fun z => z = .bool (cf S (bk (lat W x ((m : Int) - 1))) (lat W x m) (bk (lat W y (-(m : Int)))))) (e_cfC Dc hr1 hk.len (lat_inB hk hx _) (lat_in hk hx _) (lat_inB hk hy _) (e_var 0) (e_bkL Db hr (e_latC Dl hr1 hk.wk hx (e_var 1) (e_var 2) (e_sub (e_var 4) e_int)) (lat_lt hk.wk hx _)) (e_var 6) (e_var 7)) fun d hd => ?_)
  subst hd
  refine s_cons (s_par 9 10 (e_bkL Db hr (e_latC Dl hr1 hk.wk hx (e_var 1) (e_var 2) e_m1) (lat_lt hk.wk hx _)) (e_latC Dl hr1 hk.wk hy (e_var 1) (e_var 3) e_int) ?_)
  refine s_one (s_ret (P := fun z => z = .bool (isAgainst S W x y m)) ?_ fun d hd => by rw [hd])
  refine e_eq (ed_cmp (c_eqB (e_var 8) (e_cfC Dc hr1 hk.len (lat_in hk hx 0) (lat_inB hk hx (-1)) (lat_in hk hy 1) (e_var 0) (e_latC Dl hr1 hk.wk hx (e_var 1) (e_var 2) e_int) (e_var 9) (e_var 10)))) ?_
  unfold isAgainst
  rw [b1, b2, b3, b4, b5]
  rfl
end
end Ly


set_option Elab.async false
set_option linter.all false
set_option maxRecDepth 100000
set_option maxHeartbeats 2000000
namespace Ly
open PySem PySem.Spec PyProof.Rows L2 Evl Rw
def dLk : Lk → PyData
  | .beside x y => .tuple [.str "beside", dS x, dS y]
  | .along x y m => .tuple [.str "along", dS x, dS y, .int (m : Int)]
  | .against x y m => .tuple [.str "against", dS x, dS y, .int (m : Int)]
def lkOk (W : Ws) : Lk → Prop
  | .beside x y => isS W x ∧ isS W y
  | .along x y _ => isS W x ∧ isS W y
  | .against x y _ => isS W x ∧ isS W y
section
variable {P : Program} {w : World} {K : PySem.W.Frag} {mg : Str → Option Value} {base : Heap}
abbrev sLong : Stmt := topS 17
theorem scLong : FnScope ["thing"] ["thing"] (defScope sLong) := ⟨rfl, rfl, rfl, by decide +kernel, rfl, by decide +kernel, by decide +kernel⟩
abbrev spLong (K : PySem.W.Frag) : Sp := spF K (fun n : Nat => [.int (n : Int)]) (fun _ => True) (fun n => .bool (decide (0 < n)))
theorem ok_long (T : Bl mg) (F : Dt K mg "is_long" sLong ["thing"]) : Df P w K mg base 1 "is_long" ["thing"] (spLong K) := by
  refine df_mk F scLong (fun _ => rfl) fun f cdv A outer s H E hr n hc => ?_
  have nd := scLong.nd
  refine s_one (s_ret (P := fun z => z = .bool (decide (0 < n))) ?_ fun d hd => by rw [hd])
  refine e_eq (d := .bool (true && (!false && decide ((0 : Int) < (n : Int))))) (e_and (e_isi (T := "int") T.isi T.int (by decide +kernel) (e_var 0) (kit_ty (a := "int") (b := "int") (r := true) (by decide +kernel))) fun _ => e_and (e_not (e_isi (T := "bool") T.isi T.bool (by decide +kernel) (e_var 0) (kit_ty (a := "int") (b := "bool") (r := false) (by decide +kernel)))) fun _ => e_one (ed_cmp (c_gt (e_var 0) e_int))) ?_
  show PyData.bool (decide ((0 : Int) < (n : Int))) = _
  exact congrArg PyData.bool (decide_eq_decide.mpr (by omega))
abbrev sLink : Stmt := topS 18
theorem scLink : FnScope ["surface", "ways", "thing"] ["surface", "ways", "thing"] (defScope sLink) := ⟨rfl, rfl, rfl, by decide +kernel, rfl, by decide +kernel, by decide +kernel⟩
abbrev spLink (K : PySem.W.Frag) : Sp := spF K (fun i : List Nat × Ws × Lk => [dW i.1, dWs i.2.1, dLk i.2.2]) (fun i => Sk i.1 i.2.1 ∧ lkOk i.2.1 i.2.2) (fun i => .bool (isLink i.1 i.2.1 i.2.2))
theorem ok_link (T : Bl mg) (F : Dt K mg "is_link" sLink ["surface", "ways", "thing"]) (Ds : Df P w K mg base 1 "is_strand" ["ways", "thing"] (spIsStrand K)) (Dl : Df P w K mg base 1 "is_long" ["thing"] (spLong K))
    (D1 : Df P w K mg base 3 "is_beside" ["surface", "ways", "one", "other"] (spBeside K)) (D2 : Df P w K mg base 3 "is_along" ["surface", "ways", "one", "other", "many"] (spAlong K)) (D3 : Df P w K mg base 3 "is_against" ["surface", "ways", "one", "other", "many"] (spAgainst K)) :
    Df P w K mg base 4 "is_link" ["surface", "ways", "thing"] (spLink K) := by
  refine df_mk F scLink (fun _ => rfl) fun f cdv A outer s H E hr i hc => ?_
  have nd := scLink.nd
  obtain ⟨S, W, l⟩ := i
  dsimp only at hc ⊢
  obtain ⟨hk, hl⟩ := hc
  have hr1 := hr.mono (show 1 ≤ 3 by decide)
  cases l with
  | beside x y =>
    obtain ⟨hx, hy⟩ := hl
    refine s_cons (s_if (P := fun z => z = (!true || (decide ((3 : Int) < 3) || !true))) (t_w (wd_or (t_not (t_val (e_isi (T := "tuple") T.isi T.tuple (by decide +kernel) (e_var 2) (kit_ty (a := "tuple") (b := "tuple") (r := true) (by decide +kernel))))) fun _ => wd_or (t_cmp (c_lt (e_len T.len (e_var 2) rfl (Nat.le_of_ble_eq_true rfl)) e_int)) fun _ =>
      w_or1 (t_not (t_val (e_isi (T := "str") T.isi T.str (by decide +kernel) (e_ixT (e_var 2) e_int rfl) (kit_ty (a := "str") (b := "str") (r := true) (by decide +kernel))))))) (fun h => nomatch h) fun _ => s_nil ?_)
    refine s_cons (s_if (P := fun z => z = (!true || !true)) (t_w (wd_or (t_not (t_val (e_callF Ds (W, x) hr1 (a_cons (e_var 1) (a_cons (e_ixT (e_var 2) e_int rfl) a_nil)) ⟨hk.wk, hx⟩))) fun _ => w_or1 (t_not (t_val (e_callF Ds (W, y) hr1 (a_cons (e_var 1) (a_cons (e_ixT (e_var 2) e_int rfl) a_nil)) ⟨hk.wk, hy⟩))))) (fun h => nomatch h) fun _ => s_nil ?_)
    refine s_cons (s_if (P := fun z => z = true) (t_cmp (c_eq (e_ixT (e_var 2) e_int rfl) e_str (by decide +kernel))) (fun _ => ?_) fun h => nomatch h)
    refine s_one (s_ret (P := fun z => z = .bool (isLink S W (.beside x y))) ?_ fun d hd => by rw [hd])
    refine e_eq (d := .bool (true && isBeside S W x y)) (e_and (ed_cmp (c_eq (e_len T.len (e_var 2) rfl (Nat.le_of_ble_eq_true rfl)) e_int rfl)) fun _ => e_one (e_callF D1 (S, W, x, y) hr (a_cons (e_var 0) (a_cons (e_var 1) (a_cons (e_ixT (e_var 2) e_int rfl) (a_cons (e_ixT (e_var 2) e_int rfl) a_nil)))) ⟨hk, hx, hy⟩)) ?_
    rfl
  | along x y m =>
    obtain ⟨hx, hy⟩ := hl
    refine s_cons (s_if (P := fun z => z = (!true || (decide ((4 : Int) < 3) || !true))) (t_w (wd_or (t_not (t_val (e_isi (T := "tuple") T.isi T.tuple (by decide +kernel) (e_var 2) (kit_ty (a := "tuple") (b := "tuple") (r := true) (by decide +kernel))))) fun _ => wd_or (t_cmp (c_lt (e_len T.len (e_var 2) rfl (Nat.le_of_ble_eq_true rfl)) e_int)) fun _ =>
      w_or1 (t_not (t_val (e_isi (T := "str") T.isi T.str (by decide +kernel) (e_ixT (e_var 2) e_int rfl) (kit_ty (a := "str") (b := "str") (r := true) (by decide +kernel))))))) (fun h => nomatch h) fun _ => s_nil ?_)
    refine s_cons (s_if (P := fun z => z = (!true || !true)) (t_w (wd_or (t_not (t_val (e_callF Ds (W, x) hr1 (a_cons (e_var 1) (a_cons (e_ixT (e_var 2) e_int rfl) a_nil)) ⟨hk.wk, hx⟩))) fun _ => w_or1 (t_not (t_val (e_callF Ds (W, y) hr1 (a_cons (e_var 1) (a_cons (e_ixT (e_var 2) e_int rfl) a_nil)) ⟨hk.wk, hy⟩))))) (fun h => nomatch h) fun _ => s_nil ?_)
    refine s_cons (s_if (P := fun z => z = false) (t_cmp (c_eq (e_ixT (e_var 2) e_int rfl) e_str (by decide +kernel))) (fun h => nomatch h) fun _ => s_nil ?_)
    refine s_cons (s_if (P := fun z => z = (!true || !decide (0 < m))) (t_w (wd_or (t_cmp (c_ne (k := true) (e_len T.len (e_var 2) rfl (Nat.le_of_ble_eq_true rfl)) e_int rfl)) fun _ => w_or1 (t_not (t_val (e_callF Dl m hr1 (a_cons (e_ixT (e_var 2) e_int rfl) a_nil) trivial))))) (fun h => ?_) fun h => s_nil ?_)
    · refine s_one (s_ret (P := fun z => z = .bool false) e_bl fun d hd => ?_)
      rw [hd]
      exact congrArg (fun b => Rv.dat (.bool b)) (show false = (decide (0 < m) && _) by rw [not_t h]; rfl)
    refine s_cons (s_if (P := fun z => z = true) (t_cmp (c_eq (e_ixT (e_var 2) e_int rfl) e_str (by decide +kernel))) (fun _ => ?_) fun h => nomatch h)
    refine s_one (s_ret (P := fun z => z = .bool (isAlong S W x y m)) (e_callF D2 (S, W, x, y, m) hr (a_cons (e_var 0) (a_cons (e_var 1) (a_cons (e_ixT (e_var 2) e_int rfl) (a_cons (e_ixT (e_var 2) e_int rfl) (a_cons (e_ixT (e_var 2) e_int rfl) a_nil))))) ⟨hk, hx, hy⟩) fun d hd => ?_)
    rw [hd]
    exact congrArg (fun b => Rv.dat (.bool b)) (show _ = (decide (0 < m) && _) by rw [not_f h]; rfl)
  | against x y m =>
    obtain ⟨hx, hy⟩ := hl
    refine s_cons (s_if (P := fun z => z = (!true || (decide ((4 : Int) < 3) || !true))) (t_w (wd_or (t_not (t_val (e_isi (T := "tuple") T.isi T.tuple (by decide +kernel) (e_var 2) (kit_ty (a := "tuple") (b := "tuple") (r := true) (by decide +kernel))))) fun _ => wd_or (t_cmp (c_lt (e_len T.len (e_var 2) rfl (Nat.le_of_ble_eq_true rfl)) e_int)) fun _ =>
      w_or1 (t_not (t_val (e_isi (T := "str") T.isi T.str (by decide +kernel) (e_ixT (e_var 2) e_int rfl) (kit_ty (a := "str") (b := "str") (r := true) (by decide +kernel))))))) (fun h => nomatch h) fun _ => s_nil ?_)
    refine s_cons (s_if (P := fun z => z = (!true || !true)) (t_w (wd_or (t_not (t_val (e_callF Ds (W, x) hr1 (a_cons (e_var 1) (a_cons (e_ixT (e_var 2) e_int rfl) a_nil)) ⟨hk.wk, hx⟩))) fun _ => w_or1 (t_not (t_val (e_callF Ds (W, y) hr1 (a_cons (e_var 1) (a_cons (e_ixT (e_var 2) e_int rfl) a_nil)) ⟨hk.wk, hy⟩))))) (fun h => nomatch h) fun _ => s_nil ?_)
    refine s_cons (s_if (P := fun z => z = false) (t_cmp (c_eq (e_ixT (e_var 2) e_int rfl) e_str (by decide +kernel))) (fun h => nomatch h) fun _ => s_nil ?_)
    refine s_cons (s_if (P := fun z => z = (!true || !decide (0 < m))) (t_w (wd_or (t_cmp (c_ne (k := true) (e_len T.len (e_var 2) rfl (Nat.le_of_ble_eq_true rfl)) e_int rfl)) fun _ => w_or1 (t_not (t_val (e_callF Dl m hr1 (a_cons (e_ixT (e_var 2) e_int rfl) a_nil) trivial))))) (fun h => ?_) fun h => s_nil ?_)
    · refine s_one (s_ret (P := fun z => z = .bool false) e_bl fun d hd => ?_)
      rw [hd]
      exact congrArg (fun b => Rv.dat (.bool b)) (show false = (decide (0 < m) && _) by rw [not_t h]; rfl)
    refine s_cons (s_if (P := fun z => z = false) (t_cmp (c_eq (e_ixT (e_var 2) e_int rfl) e_str (by decide +kernel))) (fun h => nomatch h) fun _ => s_nil ?_)
    refine s_one (s_ret (P := fun z => z = .bool (true && isAgainst S W x y m)) (e_and (ed_cmp (c_eq (e_ixT (e_var 2) e_int rfl) e_str (by decide +kernel))) fun _ => e_one (e_callF D3 (S, W, x, y, m) hr (a_cons (e_var 0) (a_cons (e_var 1) (a_cons (e_ixT (e_var 2) e_int rfl) (a_cons (e_ixT (e_var 2) e_int rfl) (a_cons (e_ixT (e_var 2) e_int rfl) a_nil))))) ⟨hk, hx, hy⟩)) fun d hd => ?_)
    rw [hd]
    exact congrArg (fun b => Rv.dat (.bool b)) (show _ = (decide (0 < m) && _) by rw [not_f h])
end
end Ly


set_option Elab.async false
set_option linter.all false
set_option maxRecDepth 100000
set_option maxHeartbeats 2000000
namespace Ly
open PySem PySem.Spec PyProof.Rows L2 Evl Rw
theorem runUp_le (f : Nat → Bool) : ∀ n k, runUp f n k ≤ k + n
  | 0, k => Nat.le_refl _
  | n + 1, k => by
    unfold runUp
    split
    · have := runUp_le f n (k + 1); omega
    · omega
theorem toks_slt (x y : Sd) : PySem.W.dataLt (dS x) (dS y) = slt x y := by
  unfold slt PySem.W.dataLt dS
  simp only [PySem.W.keyToks, PySem.W.keyToksAll, List.nil_append, List.cons_append, PyProof.Rows.lexLt, itemLt]
  rw [Bool.eq_iff_iff]
  simp only [Bool.or_eq_true, Bool.and_eq_true, Bool.not_eq_true', decide_eq_true_eq, decide_eq_false_iff_not, Bool.false_eq_true, and_false, or_false]
  omega
theorem alike_S (x y : Sd) : PySem.W.AlikeAll [dS x, dS y] := by
  have h : ∀ x y : Sd, PySem.W.alike (dS x) (dS y) = true := fun x y => by
    unfold dS
    simp only [PySem.W.alike, PySem.W.alikeAll, Bool.and_self]
  refine ⟨fun a ha b hb => ?_, fun a ha => ?_⟩
  · rcases (by simpa using ha : a = dS x ∨ a = dS y) with rfl | rfl <;> rcases (by simpa using hb : b = dS x ∨ b = dS y) with rfl | rfl <;> exact h _ _
  · rcases (by simpa using ha : a = dS x ∨ a = dS y) with rfl | rfl <;> (unfold dS; exact fun z => nomatch z)
theorem depth_S (x : Sd) : (dS x).depth = 1 := by
  unfold dS
  simp only [PyData.depth, PyData.depthAll]
  rfl
section
variable {X : Cx} {tp : TPar} {Γ : List Sl} {tg iter e a b c : Expr} {pos apos p2 p3 q1 q2 q3 : Pos} {op : CmpOp}
/-- met_at(ways, strand, k) -/
abbrev spMet (K : PySem.W.Frag) : Sp := spF K (fun i : Ws × Sd × Int => [dWs i.1, dS i.2.1, .int i.2.2]) (fun i => Wk i.1 ∧ isS i.1 i.2.1) (fun i => dL (met i.1 i.2.1 i.2.2))
theorem e_metC {W : Ws} {x : Sd} {k : Int} (D : Df X.prog X.w X.K X.mg X.base 3 "met_at" ["ways", "strand", "step"] (spMet X.K)) (hr : Room 3 X.A) (hk : Wk W) (hx : isS W x) (ha : Ed X tp Γ a (dWs W)) (hb : Ed X tp Γ b (dS x)) (hc : Ed X tp Γ c (.int k))
    (hg : Gl X "met_at" := by rfl) (h1 : starEach [a, b, c] X.env = (false, eval a X.env) :: starEach [b, c] X.env := by rfl) (h2 : starEach [b, c] X.env = (false, eval b X.env) :: starEach [c] X.env := by rfl) (h3 : starEach [c] X.env = (false, eval c X.env) :: starEach [] X.env := by rfl) (hpl : (backTo pos (starEach [b, c] X.env)).any (·.1) = false := by rfl) :
    Ed X tp Γ (.Call (.Name "met_at" p2) [a, b, c] [] pos) (dL (met W x k)) :=
  e_callF D (W, x, k) hr (a_cons ha (a_cons hb (a_cons hc a_nil h3) h2) h1) ⟨hk, hx⟩ rfl hg (by decide) h1 hpl
end
section
variable {P : Program} {w : World} {K : PySem.W.Frag} {mg : Str → Option Value} {base : Heap}
theorem met_lt {W : Ws} (k : Wk W) {s : Sd} (h : isS W s) (t : Int) : Lt (met W s t) := by
  unfold met
  split
  · exact lat_lt k h t
  · exact bk_lt (lat_lt k h _)
theorem met_in {S : List Nat} {W : Ws} (k : Sk S W) {s : Sd} (h : isS W s) (t : Int) : met W s t ∈ S ∧ bk (met W s t) ∈ S := by
  unfold met
  split
  · exact ⟨lat_in k h t, lat_inB k h t⟩
  · rw [bk_bk (lat_lt k.wk h _)]
    exact ⟨lat_inB k h _, lat_in k h _⟩
abbrev sMet : Stmt := topS 21
theorem scMet : FnScope ["ways", "strand", "step"] ["ways", "strand", "step"] (defScope sMet) := ⟨rfl, rfl, rfl, by decide +kernel, rfl, by decide +kernel, by decide +kernel⟩
theorem ok_met (T : Bl mg) (F : Dt K mg "met_at" sMet ["ways", "strand", "step"]) (Db : Df P w K mg base 2 "back" ["word"] (spBack K)) (Dl : Df P w K mg base 1 "letter_at" ["ways", "strand", "step"] (spLetterAt K)) : Df P w K mg base 3 "met_at" ["ways", "strand", "step"] (spMet K) := by
  refine df_mk F scMet (fun _ => rfl) fun f cdv A outer s H E hr i hc => ?_
  have nd := scMet.nd
  obtain ⟨W, x, k⟩ := i
  dsimp only at hc ⊢
  obtain ⟨hk, hx⟩ := hc
  obtain ⟨t, sm⟩ := T.sm3
  have hr1 := hr.mono (show 1 ≤ 2 by decide)
  refine s_cons (s_if (P := fun z => z = decide (97 ≤ lat W x 0)) (t_eq (t_cmp (c_in (e_latC Dl hr1 hk hx (e_var 0) (e_var 1) e_int) (e_glob sm))) (small_mem (lat_lt hk hx 0))) (fun h => ?_) fun h => s_nil ?_)
  · refine s_one (s_ret (P := fun z => z = dL (lat W x k)) (e_latC Dl hr1 hk hx (e_var 0) (e_var 1) (e_var 2)) fun d hd => ?_)
    have h' := of_decide_eq_true h.symm
    rw [hd]
    exact congrArg (fun b => Rv.dat (dL b)) (if_pos h').symm
  · refine s_one (s_ret (P := fun z => z = dL (bk (lat W x (-k)))) (e_bkL Db hr (e_latC Dl hr1 hk hx (e_var 0) (e_var 1) (e_neg (e_var 2))) (lat_lt hk hx _)) fun d hd => ?_)
    have h' := of_decide_eq_false h.symm
    rw [hd]
    exact congrArg (fun b => Rv.dat (dL b)) (if_neg h').symm
abbrev sRunOn : Stmt := topS 22
theorem scRunOn : FnScope ["ways", "one", "other", "way", "step"] ["ways", "one", "other", "way"] (defScope sRunOn) := ⟨rfl, rfl, rfl, by decide +kernel, rfl, by decide +kernel, by decide +kernel⟩
abbrev spRunOn (K : PySem.W.Frag) : Sp := spF K (fun i : Ws × Sd × Sd × Int => [dWs i.1, dS i.2.1, dS i.2.2.1, .int i.2.2.2]) (fun i => Wk i.1 ∧ isS i.1 i.2.1 ∧ isS i.1 i.2.2.1 ∧ -1 ≤ i.2.2.2 ∧ i.2.2.2 ≤ 1) (fun i => .int (runOn i.1 i.2.1 i.2.2.1 i.2.2.2 : Nat))
theorem ok_run_on (T : Bl mg) (F : Dt K mg "run_on" sRunOn ["ways", "one", "other", "way"]) (Dm : Df P w K mg base 3 "met_at" ["ways", "strand", "step"] (spMet K)) (Dr : Df P w K mg base 1 "room_of" ["ways", "one", "other"] (spRoomOf K)) :
    Df P w K mg base 4 "run_on" ["ways", "one", "other", "way"] (spRunOn K) := by
  refine df_mk F scRunOn (fun _ => rfl) fun f cdv A outer s H E hr i hc => ?_
  have nd := scRunOn.nd
  obtain ⟨W, x, y, d⟩ := i
  dsimp only at hc ⊢
  obtain ⟨hk, hx, hy, hd0, hd1⟩ := hc
  have hr1 := hr.mono (show 1 ≤ 3 by decide)
  let g : Nat → Bool := fun k => decide (met W x (d * ((k : Int) + 1)) = met W y (d * ((k : Int) + 1)))
  refine s_cons (s_asg 4 (P := fun z => z = .int ((0 : Nat) + 1 : Int)) e_int fun z hz => ?_)
  subst hz
  refine s_cons (s_while (fun m Γ' => ∃ k : Nat, k ≤ room W x y ∧ m = room W x y - k ∧ runUp g (room W x y - k) k = runUp g (room W x y) 0 ∧ Γ' = [.dat (dWs W), .dat (dS x), .dat (dS y), .dat (.int d), .dat (.int ((k : Int) + 1))]) (room W x y) ⟨0, Nat.zero_le _, rfl, rfl, rfl⟩ ?_)
  rintro m Γ' ⟨k, hkr, rfl, hg, rfl⟩
  refine ⟨fun b => b = (decide (k + 1 ≤ room W x y) && g k), ?_, fun h => ?_, fun h => ?_⟩
  · refine t_w (wd_and (t_eq (t_cmp (c_le (e_var 4) (e_rmC Dr hr1 hk hx hy (e_var 0) (e_var 1) (e_var 2)))) (decide_eq_decide.mpr (by omega))) fun _ => w_and1 (t_cmp (c_eqL (e_metC Dm hr hk hx (e_var 0) (e_var 1) (e_mul (e_var 3) (e_var 4) (.inl ⟨?_, ?_⟩))) (e_metC Dm hr hk hy (e_var 0) (e_var 2) (e_mul (e_var 3) (e_var 4) (.inl ⟨?_, ?_⟩))))))
    · exact Int.lt_of_lt_of_le (by decide) hd0
    · exact Int.lt_of_le_of_lt hd1 (by decide)
    · exact Int.lt_of_lt_of_le (by decide) hd0
    · exact Int.lt_of_le_of_lt hd1 (by decide)
  · obtain ⟨h1, h2⟩ := (Bool.and_eq_true _ _).mp h.symm
    have h1 := of_decide_eq_true h1
    refine s_one (s_asg 4 (P := fun z => z = .int ((k : Int) + 1 + 1)) (e_add (e_var 4) e_int) fun z hz => ?_)
    subst hz
    refine ⟨room W x y - (k + 1), by omega, k + 1, h1, rfl, ?_, ?_⟩
    · rw [← hg, show room W x y - k = (room W x y - (k + 1)) + 1 by omega]
      show _ = if g k then _ else k
      rw [h2, if_pos rfl]
    · rfl
  · refine s_one (s_ret (P := fun z => z = .int ((k : Int) + 1 - 1)) (e_sub (e_var 4) e_int) fun z hz => ?_)
    rw [hz]
    refine congrArg (fun b => Rv.dat (.int b)) ?_
    show (k : Int) + 1 - 1 = ((runUp g (room W x y) 0 : Nat) : Int)
    rw [← hg]
    by_cases h1 : k + 1 ≤ room W x y
    · rw [decide_eq_true h1, Bool.true_and] at h
      rw [show room W x y - k = (room W x y - (k + 1)) + 1 by omega]
      show _ = (((if g k then _ else k) : Nat) : Int)
      rw [← h, if_neg Bool.false_ne_true]
      omega
    · rw [show room W x y - k = 0 by omega]
      show _ = ((k : Nat) : Int)
      omega
end
end Ly


set_option Elab.async false
set_option linter.all false
set_option maxRecDepth 100000
set_option maxHeartbeats 2000000
namespace Ly
open PySem PySem.Spec PyProof.Rows L2 Evl Rw
section
variable {X : Cx} {tp : TPar} {Γ : List Sl} {tg iter e a b c elt : Expr} {pos apos p2 p3 q1 q2 q3 : Pos} {op : CmpOp} {scope : Scope} {α : Type} {as : List α} {enc : α → PyData} {Z : Out}
/-- x = [f y for y in as] on one line -/
theorem s_asgMap (j i : Nat) {x y : Str} (f : α → PyData) (hI : I X tp Γ (.Name x p3) iter (fun ds => ds = as.map enc)) (hl : as.length < 1000000)
    (he : ∀ d ∈ as, ∀ s H C cl fp, Ed (Bk X scope s H C cl fp) tp (Γ.set i (.dat (enc d))) elt (f d)) (k : Z.nx (Γ.set j (.own (as.map f))))
    (hN : X.N.Nodup := by assumption) (hi : X.N[i]? = some x := by rfl) (hx : ∀ C cl, (compEnvC scope cl C X.env).scope.names.lookup x = some .local := by intro _ _; rfl)
    (ok : BlkOk X.N X.env.scope scope [(x, i)] := by exact blkOk_by (by rfl)) (hc : X.calm = true := by rfl) (hj : X.N[j]? = some y := by rfl) (hy : X.env.scope.names.lookup y = some .local := by rfl)
    (hsw : swapsWith (.ListComp elt [⟨.Name x p3, iter, [], 0⟩] scope pos) (some (.Name y p2)) q1.line X.env = pure true := by exact sw_true rfl rfl rfl (by decide +kernel)) (hs : ∀ y, foldedSetIterable iter X.env y = pure y := by intro _; rfl) :
    S1 X tp Γ (.Assign [.Name y p2] (.ListComp elt [⟨.Name x p3, iter, [], 0⟩] scope pos) q1) Z :=
  s_asgLc (own := [(x, i)]) j (lc_map i f hI hl he hN hi hx) ok (fun ds xs e hJ => by
    subst e
    rw [List.length_map] at hJ
    rw [jf_end hJ, List.filter_eq_self.mpr (fun _ _ => rfl)]
    exact k) hc hN hj hy hsw hs
/-- x = [f y for y in as if p y] on one line -/
theorem s_asgFilt {test : Expr} (j i : Nat) {x y : Str} (p : α → Bool) (f : α → PyData) (hI : I X tp Γ (.Name x p3) iter (fun ds => ds = as.map enc)) (hl : as.length < 1000000)
    (ht : ∀ d ∈ as, ∀ s H C cl fp, Td (Bk X scope s H C cl fp) tp (Γ.set i (.dat (enc d))) test (p d)) (he : ∀ d ∈ as, p d = true → ∀ s H C cl fp, Ed (Bk X scope s H C cl fp) tp (Γ.set i (.dat (enc d))) elt (f d)) (k : Z.nx (Γ.set j (.own ((as.filter p).map f))))
    (hN : X.N.Nodup := by assumption) (hi : X.N[i]? = some x := by rfl) (hx : ∀ C cl, (compEnvC scope cl C X.env).scope.names.lookup x = some .local := by intro _ _; rfl)
    (ok : BlkOk X.N X.env.scope scope [(x, i)] := by exact blkOk_by (by rfl)) (hc : X.calm = true := by rfl) (hj : X.N[j]? = some y := by rfl) (hy : X.env.scope.names.lookup y = some .local := by rfl)
    (hsw : swapsWith (.ListComp elt [⟨.Name x p3, iter, [test], 0⟩] scope pos) (some (.Name y p2)) q1.line X.env = pure true := by exact sw_true rfl rfl rfl (by decide +kernel)) (hs : ∀ y, foldedSetIterable iter X.env y = pure y := by intro _; rfl) :
    S1 X tp Γ (.Assign [.Name y p2] (.ListComp elt [⟨.Name x p3, iter, [test], 0⟩] scope pos) q1) Z :=
  s_asgLc (own := [(x, i)]) j (lc_filt i p f hI hl ht he hN hi hx) ok (fun ds xs e hJ => by
    subst e
    rw [List.length_map] at hJ
    rw [jf_end hJ]
    exact k) hc hN hj hy hsw hs
/-- len of a number of things known -/
theorem e_lenLM (hm : X.mg "len" = none) (h : Ed X tp Γ e (.list (as.map enc))) (hz : as.length ≤ 1000000) (hg : Gl X "len" := by rfl) (hs : starEach [e] X.env = (false, eval e X.env) :: starEach [] X.env := by rfl) (hpl : (backTo pos (starEach [] X.env)).any (·.1) = false := by rfl) :
    Ed X tp Γ (.Call (.Name "len" p2) [e] [] pos) (.int (as.length : Nat)) := e_eq (e_len hm h rfl (by rw [List.length_map]; exact hz) hg hs hpl) (by rw [List.length_map])
theorem e_lenTM (hm : X.mg "len" = none) (h : Ed X tp Γ e (.tuple (as.map enc))) (hz : as.length ≤ 1000000) (hg : Gl X "len" := by rfl) (hs : starEach [e] X.env = (false, eval e X.env) :: starEach [] X.env := by rfl) (hpl : (backTo pos (starEach [] X.env)).any (·.1) = false := by rfl) :
    Ed X tp Γ (.Call (.Name "len" p2) [e] [] pos) (.int (as.length : Nat)) := e_eq (e_len hm h rfl (by rw [List.length_map]; exact hz) hg hs hpl) (by rw [List.length_map])
theorem atI_map {i : Nat} {y : α} (h : as[i]? = some y) : atI (as.map enc) (i : Int) = some (enc y) := atI_nat (by rw [List.getElem?_map, h]; rfl)
theorem e_halfN {n : Nat} {j : Nat} {p4 : Pos} (ha : Ed X tp Γ a (.int (n : Int))) : Ed X tp Γ (.BinOp a .FloorDiv (.Constant (.int 2) j p4) pos) (.int ((n / 2 : Nat) : Int)) := e_eq (e_fdiv ha e_int (by decide)) (congrArg PyData.int (by omega))
end
section
variable {P : Program} {w : World} {K : PySem.W.Frag} {mg : Str → Option Value} {base : Heap}
abbrev sFst : Stmt := topS 23
abbrev nFst : List Str := ["surface", "ways", "one", "other", "ahead", "behind", "begin", "sources"]
theorem scFst : FnScope nFst ["surface", "ways", "one", "other"] (defScope sFst) := ⟨rfl, rfl, rfl, by decide +kernel, rfl, by decide +kernel, by decide +kernel⟩
abbrev spFst (K : PySem.W.Frag) : Sp := spF K (fun i : List Nat × Ws × Sd × Sd => [dW i.1, dWs i.2.1, dS i.2.2.1, dS i.2.2.2]) (fun i => Sk i.1 i.2.1 ∧ isS i.2.1 i.2.2.1 ∧ isS i.2.1 i.2.2.2) (fun i => .bool (sFirst i.1 i.2.1 i.2.2.1 i.2.2.2))
theorem ok_fst (T : Bl mg) (F : Dt K mg "stands_first" sFst ["surface", "ways", "one", "other"]) (Db : Df P w K mg base 2 "back" ["word"] (spBack K)) (Dl : Df P w K mg base 1 "letter_at" ["ways", "strand", "step"] (spLetterAt K)) (Dm : Df P w K mg base 3 "met_at" ["ways", "strand", "step"] (spMet K))
    (Do : Df P w K mg base 4 "run_on" ["ways", "one", "other", "way"] (spRunOn K)) (Dr : Df P w K mg base 1 "room_of" ["ways", "one", "other"] (spRoomOf K)) (Dc : Df P w K mg base 1 "comes_first" ["surface", "begin", "one", "other"] (spComes K)) :
    Df P w K mg base 5 "stands_first" ["surface", "ways", "one", "other"] (spFst K) := by
  refine df_mk F scFst (fun _ => rfl) fun f cdv A outer s H E hr i hc => ?_
  have nd := scFst.nd
  obtain ⟨S, W, x, y⟩ := i
  dsimp only at hc ⊢
  obtain ⟨hk, hx, hy⟩ := hc
  have hr1 := hr.mono (show 1 ≤ 4 by decide)
  have hr2 := hr.mono (show 2 ≤ 4 by decide)
  have hr3 := hr.mono (show 3 ≤ 4 by decide)
  obtain ⟨t, sm⟩ := T.sm3
  generalize eN : runOn W x y 1 = n1
  generalize eM : runOn W x y (-1) = n2
  refine s_cons (s_asg 4 (P := fun z => z = .int (n1 : Int)) (e_callF Do (W, x, y, 1) hr (a_cons (e_var 1) (a_cons (e_var 2) (a_cons (e_var 3) (a_cons e_int a_nil)))) ⟨hk.wk, hx, hy, show (-1 : Int) ≤ 1 by decide, show (1 : Int) ≤ 1 by decide⟩ (by rw [← eN])) fun d hd => ?_)
  subst hd
  refine s_cons (s_asg 5 (P := fun z => z = .int (n2 : Int)) (e_callF Do (W, x, y, -1) hr (a_cons (e_var 1) (a_cons (e_var 2) (a_cons (e_var 3) (a_cons e_m1 a_nil)))) ⟨hk.wk, hx, hy, show (-1 : Int) ≤ -1 by decide, show (-1 : Int) ≤ 1 by decide⟩ (by rw [← eM])) fun d hd => ?_)
  subst hd
  have es : sFirst S W x y = if (n1 : Int) = (room W x y : Int) then slt x y == decide (97 ≤ lat W (smin x y) 0) else if (n1 : Int) ≤ (n2 : Int) then cf S (bk (met W x n1)) (met W x ((n1 : Int) + 1)) (met W y ((n1 : Int) + 1)) else cf S (met W x (-(n2 : Int))) (bk (met W y (-(n2 : Int) - 1))) (bk (met W x (-(n2 : Int) - 1))) := by
    unfold sFirst
    rw [eN, eM]
  have hm : isS W (smin x y) := by unfold smin; split <;> assumption
  refine s_cons (s_if (P := fun z => z = decide ((n1 : Int) = (room W x y : Int))) (t_cmp (c_eq (e_var 4) (e_rmC Dr hr1 hk.wk hx hy (e_var 1) (e_var 2) (e_var 3)))) (fun h => ?_) fun h => s_nil ?_)
  · have h' := of_decide_eq_true h.symm
    refine s_one (s_ret (P := fun z => z = .bool (slt x y == decide (97 ≤ lat W (smin x y) 0))) ?_ fun d hd => by rw [hd]; exact congrArg (fun b => Rv.dat (.bool b)) (es.trans (if_pos h')).symm)
    refine ed_cmp (c_eqB (ed_cmp (c_ltS hr.units0 (e_var 2) (e_var 3))) (ed_cmp (cm_b (c_in (e_latC Dl hr1 hk.wk hm (e_var 1) (e_eq (e_min2D rfl hr.units T.min (e_var 2) (e_var 3) (alike_S x y) ?_) ?_) e_int) (e_glob sm)) (small_mem (lat_lt hk.wk hm 0)))))
    · simp only [PyData.depthAll, depth_S]
      decide
    · rw [toks_slt]
      unfold smin
      split <;> rfl
  have h' := of_decide_eq_false h.symm
  refine s_cons (s_if (P := fun z => z = decide ((n1 : Int) ≤ (n2 : Int))) (t_cmp (c_le (e_var 4) (e_var 5))) (fun h => ?_) fun h => s_nil ?_)
  · have h2 := of_decide_eq_true h.symm
    refine s_cons (s_asg 6 (P := fun z => z = dL (bk (met W x n1))) (e_bkL Db hr2 (e_metC Dm hr3 hk.wk hx (e_var 1) (e_var 2) (e_var 4)) (met_lt hk.wk hx _)) fun d hd => ?_)
    subst hd
    refine s_one (s_ret (P := fun z => z = .bool (cf S (bk (met W x n1)) (met W x ((n1 : Int) + 1)) (met W y ((n1 : Int) + 1)))) ?_ fun d hd => by rw [hd]; exact congrArg (fun b => Rv.dat (.bool b)) (es.trans ((if_neg h').trans (if_pos h2))).symm)
    exact e_cfC Dc hr1 hk.len (met_in hk hx _).2 (met_in hk hx _).1 (met_in hk hy _).1 (e_var 0) (e_var 6) (e_metC Dm hr3 hk.wk hx (e_var 1) (e_var 2) (e_add (e_var 4) e_int)) (e_metC Dm hr3 hk.wk hy (e_var 1) (e_var 3) (e_add (e_var 4) e_int))
  · have h2 := of_decide_eq_false h.symm
    refine s_cons (s_asg 7 (P := fun z => z = .tuple [dL (bk (met W x (-(n2 : Int) - 1))), dL (bk (met W y (-(n2 : Int) - 1)))]) (e_tup (a_cons (e_bkL Db hr2 (e_metC Dm hr3 hk.wk hx (e_var 1) (e_var 2) (e_sub (e_neg (e_var 5)) e_int)) (met_lt hk.wk hx _)) (a_cons (e_bkL Db hr2 (e_metC Dm hr3 hk.wk hy (e_var 1) (e_var 3) (e_sub (e_neg (e_var 5)) e_int)) (met_lt hk.wk hy _)) a_nil))) fun d hd => ?_)
    subst hd
    refine s_one (s_ret (P := fun z => z = .bool (cf S (met W x (-(n2 : Int))) (bk (met W y (-(n2 : Int) - 1))) (bk (met W x (-(n2 : Int) - 1))))) ?_ fun d hd => by rw [hd]; exact congrArg (fun b => Rv.dat (.bool b)) (es.trans ((if_neg h').trans (if_neg h2))).symm)
    exact e_cfC Dc hr1 hk.len (met_in hk hx _).1 (met_in hk hy _).2 (met_in hk hx _).2 (e_var 0) (e_metC Dm hr3 hk.wk hx (e_var 1) (e_var 2) (e_neg (e_var 5))) (e_ixT (e_var 7) e_int rfl) (e_ixT (e_var 7) e_int rfl)
theorem mem_place {r : Sd → Sd → Bool} {x y : Sd} : ∀ {l : List Sd}, y ∈ place r x l ↔ y = x ∨ y ∈ l
  | [] => by unfold place; simp
  | z :: l => by
    unfold place
    split
    · rw [List.mem_cons, mem_place, List.mem_cons]
      exact or_left_comm
    · rw [List.mem_cons]
theorem place_len {r : Sd → Sd → Bool} {x : Sd} : ∀ {l : List Sd}, (place r x l).length = l.length + 1
  | [] => rfl
  | z :: l => by
    unfold place
    split
    · rw [List.length_cons, place_len, List.length_cons]
    · rw [List.length_cons, List.length_cons]
theorem order_snoc {S : List Nat} {W : Ws} {xs : List Sd} {x : Sd} : orderOf S W (xs ++ [x]) = place (sFirst S W) x (orderOf S W xs) := by
  unfold orderOf
  rw [List.foldl_append]
  rfl
theorem fold_mem {r : Sd → Sd → Bool} {y : Sd} : ∀ {xs acc : List Sd}, y ∈ xs.foldl (fun acc x => place r x acc) acc ↔ y ∈ xs ∨ y ∈ acc
  | [], acc => by simp
  | x :: xs, acc => by
    rw [List.foldl_cons, fold_mem, mem_place, List.mem_cons, or_assoc]
    exact or_left_comm
theorem fold_len {r : Sd → Sd → Bool} : ∀ {xs acc : List Sd}, (xs.foldl (fun acc x => place r x acc) acc).length = xs.length + acc.length
  | [], acc => by simp
  | x :: xs, acc => by
    rw [List.foldl_cons, fold_len, place_len, List.length_cons]; omega
theorem order_mem {S : List Nat} {W : Ws} {xs : List Sd} {y : Sd} : y ∈ orderOf S W xs ↔ y ∈ xs := by
  unfold orderOf
  rw [fold_mem]
  simp
theorem order_len {S : List Nat} {W : Ws} {xs : List Sd} : (orderOf S W xs).length = xs.length := by
  unfold orderOf
  rw [fold_len]
  simp
abbrev sOrd : Stmt := topS 24
abbrev nOrd : List Str := ["surface", "ways", "strands", "found", "strand", "place"]
theorem scOrd : FnScope nOrd ["surface", "ways", "strands"] (defScope sOrd) := ⟨rfl, rfl, rfl, by decide +kernel, rfl, by decide +kernel, by decide +kernel⟩
abbrev spOrd (K : PySem.W.Frag) : Sp := spO K (fun i : List Nat × Ws × List Sd => [dW i.1, dWs i.2.1, .list (i.2.2.map dS)]) (fun i => Sk i.1 i.2.1 ∧ (∀ x ∈ i.2.2, isS i.2.1 x) ∧ i.2.2.length ≤ 10000) (fun i => (orderOf i.1 i.2.1 i.2.2).map dS)
theorem ok_ord (T : Bl mg) (F : Dt K mg "order_of" sOrd ["surface", "ways", "strands"]) (Df' : Df P w K mg base 5 "stands_first" ["surface", "ways", "one", "other"] (spFst K)) :
    Df P w K mg base 6 "order_of" ["surface", "ways", "strands"] (spOrd K) := by
  refine df_mk F scOrd (fun _ => rfl) fun f cdv A outer s H E hr i hc => ?_
  have nd := scOrd.nd
  obtain ⟨S, W, xs⟩ := i
  dsimp only at hc ⊢
  obtain ⟨hk, hx, hl⟩ := hc
  refine s_cons (s_asgO 3 (o_lst a_nil) fun d hd => ?_)
  subst hd
  refine s_cons (s_forM xs dS (i_listD (e_var 2)) (tg_name 4) (fun k Γ' => ∃ o1 o2, Γ' = [.dat (dW S), .dat (dWs W), .dat (.list (xs.map dS)), .own ((orderOf S W (xs.take k)).map dS), o1, o2]) ⟨_, _, rfl⟩ ?_ ?_)
  · rintro k x hka hxm Γ' ⟨o1, o2, rfl⟩
    refine ⟨_, rfl, ?_⟩
    have e1 : orderOf S W (xs.take (k + 1)) = place (sFirst S W) x (orderOf S W (xs.take k)) := by rw [take_step hka, order_snoc]
    have hacc : ∀ y ∈ orderOf S W (xs.take k), isS W y := fun y hy => hx y (List.mem_of_mem_take (order_mem.mp hy))
    have hal : (orderOf S W (xs.take k)).length ≤ 10000 := by rw [order_len, List.length_take]; omega
    generalize orderOf S W (xs.take k) = acc at *
    refine s_cons (s_asg 5 (P := fun z => z = .int ((0 : Nat) : Int)) e_int fun d hd => ?_)
    subst hd
    refine s_cons (s_while (fun m Γ' => ∃ j : Nat, j ≤ acc.length ∧ m = acc.length - j ∧ place (sFirst S W) x acc = acc.take j ++ place (sFirst S W) x (acc.drop j) ∧ Γ' = [.dat (dW S), .dat (dWs W), .dat (.list (xs.map dS)), .own (acc.map dS), .dat (dS x), .dat (.int (j : Int))]) acc.length ⟨0, Nat.zero_le _, rfl, rfl, rfl⟩ ?_)
    rintro m Γ' ⟨j, hj, rfl, hp, rfl⟩
    refine ⟨fun b => b = (decide (j < acc.length) && sFirst S W (acc.getD j (0, 0)) x), ?_, fun h => ?_, fun h => ?_⟩
    · refine t_tmp 3 rfl (t_w (wd_and (t_cmp (c_ltN (e_var 5) (e_lenLM T.len (e_var 3) (by omega)))) fun hb => w_and1 (t_val ?_)))
      have hjl := of_decide_eq_true hb
      have ea : acc[j]? = some (acc.getD j (0, 0)) := by rw [List.getD_eq_getElem?_getD, List.getElem?_eq_getElem hjl]; rfl
      exact e_callF Df' (S, W, acc.getD j (0, 0), x) hr (a_cons (e_var 0) (a_cons (e_var 1) (a_cons (e_ixL (e_var 3) (e_var 5) (atI_map ea)) (a_cons (e_var 4) a_nil)))) ⟨hk, hacc _ (List.mem_of_getElem? ea), hx x hxm⟩
    · obtain ⟨h1, h2⟩ := (Bool.and_eq_true _ _).mp h.symm
      have h1 := of_decide_eq_true h1
      refine s_one (s_asg 5 (P := fun z => z = .int ((j : Int) + 1)) (e_add (e_var 5) e_int) fun d hd => ?_)
      subst hd
      refine ⟨acc.length - (j + 1), by omega, j + 1, h1, rfl, ?_, rfl⟩
      rw [hp]
      rw [List.getD_eq_getElem?_getD, List.getElem?_eq_getElem h1] at h2
      have h2' : sFirst S W acc[j] x = true := h2
      rw [List.drop_eq_getElem_cons h1, List.take_succ_eq_append_getElem h1]
      conv => lhs; rw [place]
      rw [if_pos h2', List.append_assoc]
      rfl
    · refine s_one (s_insert (P := fun z => z = .int (j : Int)) (P' := fun z => z = dS x) 3 rfl (e_var 5) (e_var 4) (by rw [List.length_map]; omega) (fun d hd => ⟨j, hd, by omega⟩) fun n d hn hd => ?_)
      have hn' : n = j := by
        have : (PyData.int (n : Int)) = .int (j : Int) := hn
        injection this with this
        omega
      subst hn' hd
      show ∃ o1 o2, _ = [_, _, _, Sl.own ((orderOf S W (xs.take (k + 1))).map dS), o1, o2]
      rw [e1, hp]
      have ep : place (sFirst S W) x (acc.drop n) = x :: acc.drop n := by
        by_cases h1 : n < acc.length
        · rw [decide_eq_true h1, Bool.true_and, List.getD_eq_getElem?_getD, List.getElem?_eq_getElem h1] at h
          have h2 : sFirst S W acc[n] x = false := h.symm
          rw [List.drop_eq_getElem_cons h1]
          conv => lhs; rw [place]
          rw [if_neg (by rw [h2]; exact Bool.false_ne_true)]
        · rw [List.drop_eq_nil_of_le (by omega)]
          rfl
      have e2 : (acc.take n ++ x :: acc.drop n).map dS = (acc.map dS).take n ++ [dS x] ++ (acc.map dS).drop n := by
        rw [List.map_append, List.map_cons, List.map_take, List.map_drop, List.append_assoc]
        rfl
      rw [ep, e2]
      exact ⟨_, _, rfl⟩
  · rintro Γ' ⟨o1, o2, rfl⟩
    rw [List.take_length]
    exact s_one (s_retM 3 rfl rfl)
end
end Ly


set_option Elab.async false
set_option linter.all false
set_option maxRecDepth 100000
set_option maxHeartbeats 2000000
namespace Ly
open PySem PySem.Spec PyProof.Rows L2 Evl Rw
def dRow (xs : List Sd) : PyData := .tuple (xs.map dS)
def dD (D : Dw) : PyData := .tuple (D.map dRow)
theorem through_is {W : Ws} {n : Nat} {s : Sd} (h : s ∈ throughN W n) : isS W s := strands_is (List.mem_filter.mp h).1
theorem through_few {W : Ws} (k : Wk W) (n : Nat) : (throughN W n).length ≤ 10000 := Nat.le_trans (List.length_filter_le ..) (strands_few k)
section
variable {P : Program} {w : World} {K : PySem.W.Frag} {mg : Str → Option Value} {base : Heap}
abbrev sTight : Stmt := topS 25
theorem scTight : FnScope ["surface", "ways", "rows", "number", "row"] ["surface", "ways"] (defScope sTight) := ⟨rfl, rfl, rfl, by decide +kernel, rfl, by decide +kernel, by decide +kernel⟩
abbrev spTight (K : PySem.W.Frag) : Sp := spF K (fun i : List Nat × Ws => [dW i.1, dWs i.2]) (fun i => Sk i.1 i.2 ∧ i.1.length ≤ 12) (fun i => dD (tightM i.1 i.2))
theorem ok_tight (T : Bl mg) (F : Dt K mg "tight" sTight ["surface", "ways"]) (Do : Df P w K mg base 6 "order_of" ["surface", "ways", "strands"] (spOrd K)) (Dt' : Df P w K mg base 2 "strands_through" ["ways", "number"] (spThrough K)) :
    Df P w K mg base 7 "tight" ["surface", "ways"] (spTight K) := by
  refine df_mk F scTight (fun _ => rfl) fun f cdv A outer s H E hr i hc => ?_
  have nd := scTight.nd
  obtain ⟨S, W⟩ := i
  dsimp only at hc ⊢
  obtain ⟨hk, hl⟩ := hc
  have hr2 := hr.mono (show 2 ≤ 6 by decide)
  refine s_cons (s_asgMap 2 3 (as := List.range (S.length / 2)) (enc := nI) (fun n => .list ((orderOf S W (throughN W n)).map dS)) (i_rngN T.range (e_halfN (e_lenW T.len (e_var 0) (by omega))) (by omega)) (by rw [List.length_range]; omega) (fun n hn s H C cl fp => ?_) ?_)
  · have hn6 : n < 6 := by have := List.mem_range.mp hn; omega
    exact ed_ofO (o_callF Do (S, W, throughN W n) hr (a_cons (e_var 0) (a_cons (e_var 1) (a_cons (ed_ofO (o_callF Dt' (W, n) hr2 (a_cons (e_var 1) (a_cons (e_var 3) a_nil)) ⟨hk.wk, hn6⟩)) a_nil))) ⟨hk, fun x hx => through_is hx, through_few hk.wk n⟩)
  refine s_freeze 2 rfl (s_one (s_ret (P := fun z => z = dD (tightM S W)) ?_ fun d hd => by rw [hd]))
  refine e_eq (e_tuple T.tuple (ed_ofO (o_map 4 (as := List.range (S.length / 2)) (enc := fun n => .list ((orderOf S W (throughN W n)).map dS)) (fun n => dRow (orderOf S W (throughN W n))) (i_listD (e_var 2)) (by rw [List.length_range]; omega) fun n hn s H C cl fp => ?_))) ?_
  · exact e_tuple T.tuple (e_var 4)
  · unfold dD tightM
    rw [List.map_map]
    rfl
abbrev sRunA : Stmt := topS 27
theorem scRunA : FnScope ["ways", "one", "other", "many"] ["ways", "one", "other"] (defScope sRunA) := ⟨rfl, rfl, rfl, by decide +kernel, rfl, by decide +kernel, by decide +kernel⟩
abbrev spRunA (K : PySem.W.Frag) : Sp := spF K (fun i : Ws × Sd × Sd => [dWs i.1, dS i.2.1, dS i.2.2]) (fun i => Wk i.1 ∧ isS i.1 i.2.1 ∧ isS i.1 i.2.2) (fun i => .int (runAlong i.1 i.2.1 i.2.2 : Nat))
theorem ok_runA (T : Bl mg) (F : Dt K mg "run_along" sRunA ["ways", "one", "other"]) (Dl : Df P w K mg base 1 "letter_at" ["ways", "strand", "step"] (spLetterAt K)) (Dr : Df P w K mg base 1 "room_of" ["ways", "one", "other"] (spRoomOf K)) :
    Df P w K mg base 2 "run_along" ["ways", "one", "other"] (spRunA K) := by
  refine df_mk F scRunA (fun _ => rfl) fun f cdv A outer s H E hr i hc => ?_
  have nd := scRunA.nd
  obtain ⟨W, x, y⟩ := i
  dsimp only at hc ⊢
  obtain ⟨hk, hx, hy⟩ := hc
  let g : Nat → Bool := fun k => decide (lat W x k = lat W y k)
  refine s_cons (s_asg 3 (P := fun z => z = .int ((0 : Nat) : Int)) e_int fun z hz => ?_)
  subst hz
  refine s_cons (s_while (fun m Γ' => ∃ k : Nat, k ≤ room W x y ∧ m = room W x y - k ∧ runUp g (room W x y - k) k = runUp g (room W x y) 0 ∧ Γ' = [.dat (dWs W), .dat (dS x), .dat (dS y), .dat (.int (k : Int))]) (room W x y) ⟨0, Nat.zero_le _, rfl, rfl, rfl⟩ ?_)
  rintro m Γ' ⟨k, hkr, rfl, hg, rfl⟩
  refine ⟨fun b => b = (decide (k < room W x y) && g k), ?_, fun h => ?_, fun h => ?_⟩
  · exact t_w (wd_and (t_cmp (c_ltN (e_var 3) (e_rmC Dr hr hk hx hy (e_var 0) (e_var 1) (e_var 2)))) fun _ => w_and1 (t_cmp (c_eqL (e_latC Dl hr hk hx (e_var 0) (e_var 1) (e_var 3)) (e_latC Dl hr hk hy (e_var 0) (e_var 2) (e_var 3)))))
  · obtain ⟨h1, h2⟩ := (Bool.and_eq_true _ _).mp h.symm
    have h1 := of_decide_eq_true h1
    refine s_one (s_asg 3 (P := fun z => z = .int ((k : Int) + 1)) (e_add (e_var 3) e_int) fun z hz => ?_)
    subst hz
    refine ⟨room W x y - (k + 1), by omega, k + 1, h1, rfl, ?_, rfl⟩
    rw [← hg, show room W x y - k = (room W x y - (k + 1)) + 1 by omega]
    show _ = if g k then _ else k
    rw [h2, if_pos rfl]
  · refine s_one (s_ret (P := fun z => z = .int (k : Int)) (e_var 3) fun z hz => ?_)
    rw [hz]
    refine congrArg (fun b : Nat => Rv.dat (.int (b : Int))) ?_
    show k = runUp g (room W x y) 0
    rw [← hg]
    by_cases h1 : k < room W x y
    · rw [decide_eq_true h1, Bool.true_and] at h
      rw [show room W x y - k = (room W x y - (k + 1)) + 1 by omega]
      show _ = if g k then _ else k
      rw [← h, if_neg Bool.false_ne_true]
    · rw [show room W x y - k = 0 by omega]
      rfl
abbrev sRunG : Stmt := topS 28
theorem scRunG : FnScope ["ways", "one", "other", "many"] ["ways", "one", "other"] (defScope sRunG) := ⟨rfl, rfl, rfl, by decide +kernel, rfl, by decide +kernel, by decide +kernel⟩
abbrev spRunG (K : PySem.W.Frag) : Sp := spF K (fun i : Ws × Sd × Sd => [dWs i.1, dS i.2.1, dS i.2.2]) (fun i => Wk i.1 ∧ isS i.1 i.2.1 ∧ isS i.1 i.2.2) (fun i => .int (runAgainst i.1 i.2.1 i.2.2 : Nat))
theorem ok_runG (T : Bl mg) (F : Dt K mg "run_against" sRunG ["ways", "one", "other"]) (Db : Df P w K mg base 2 "back" ["word"] (spBack K)) (Dl : Df P w K mg base 1 "letter_at" ["ways", "strand", "step"] (spLetterAt K)) (Dr : Df P w K mg base 1 "room_of" ["ways", "one", "other"] (spRoomOf K)) :
    Df P w K mg base 3 "run_against" ["ways", "one", "other"] (spRunG K) := by
  refine df_mk F scRunG (fun _ => rfl) fun f cdv A outer s H E hr i hc => ?_
  have nd := scRunG.nd
  obtain ⟨W, x, y⟩ := i
  dsimp only at hc ⊢
  obtain ⟨hk, hx, hy⟩ := hc
  have hr1 := hr.mono (show 1 ≤ 2 by decide)
  let g : Nat → Bool := fun k => decide (lat W x k = bk (lat W y (-(k : Int))))
  refine s_cons (s_asg 3 (P := fun z => z = .int ((0 : Nat) : Int)) e_int fun z hz => ?_)
  subst hz
  refine s_cons (s_while (fun m Γ' => ∃ k : Nat, k ≤ room W x y ∧ m = room W x y - k ∧ runUp g (room W x y - k) k = runUp g (room W x y) 0 ∧ Γ' = [.dat (dWs W), .dat (dS x), .dat (dS y), .dat (.int (k : Int))]) (room W x y) ⟨0, Nat.zero_le _, rfl, rfl, rfl⟩ ?_)
  rintro m Γ' ⟨k, hkr, rfl, hg, rfl⟩
  refine ⟨fun b => b = (decide (k < room W x y) && g k), ?_, fun h => ?_, fun h => ?_⟩
  · exact t_w (wd_and (t_cmp (c_ltN (e_var 3) (e_rmC Dr hr1 hk hx hy (e_var 0) (e_var 1) (e_var 2)))) fun _ => w_and1 (t_cmp (c_eqL (e_latC Dl hr1 hk hx (e_var 0) (e_var 1) (e_var 3)) (e_bkL Db hr (e_latC Dl hr1 hk hy (e_var 0) (e_var 2) (e_neg (e_var 3))) (lat_lt hk hy _)))))
  · obtain ⟨h1, h2⟩ := (Bool.and_eq_true _ _).mp h.symm
    have h1 := of_decide_eq_true h1
    refine s_one (s_asg 3 (P := fun z => z = .int ((k : Int) + 1)) (e_add (e_var 3) e_int) fun z hz => ?_)
    subst hz
    refine ⟨room W x y - (k + 1), by omega, k + 1, h1, rfl, ?_, rfl⟩
    rw [← hg, show room W x y - k = (room W x y - (k + 1)) + 1 by omega]
    show _ = if g k then _ else k
    rw [h2, if_pos rfl]
  · refine s_one (s_ret (P := fun z => z = .int (k : Int)) (e_var 3) fun z hz => ?_)
    rw [hz]
    refine congrArg (fun b : Nat => Rv.dat (.int (b : Int))) ?_
    show k = runUp g (room W x y) 0
    rw [← hg]
    by_cases h1 : k < room W x y
    · rw [decide_eq_true h1, Bool.true_and] at h
      rw [show room W x y - k = (room W x y - (k + 1)) + 1 by omega]
      show _ = if g k then _ else k
      rw [← h, if_neg Bool.false_ne_true]
    · rw [show room W x y - k = 0 by omega]
      rfl
abbrev sLinksOf : Stmt := topS 29
abbrev nLinksOf : List Str := ["surface", "ways", "one", "other", "along", "against", "link"]
theorem scLinksOf : FnScope nLinksOf ["surface", "ways", "one", "other"] (defScope sLinksOf) := ⟨rfl, rfl, rfl, by decide +kernel, rfl, by decide +kernel, by decide +kernel⟩
abbrev spLinksOf (K : PySem.W.Frag) : Sp := spO K (fun i : List Nat × Ws × Sd × Sd => [dW i.1, dWs i.2.1, dS i.2.2.1, dS i.2.2.2]) (fun i => Sk i.1 i.2.1 ∧ isS i.2.1 i.2.2.1 ∧ isS i.2.1 i.2.2.2) (fun i => (linksOf i.1 i.2.1 i.2.2.1 i.2.2.2).map dLk)
theorem ok_links_of (T : Bl mg) (F : Dt K mg "links_of" sLinksOf ["surface", "ways", "one", "other"]) (D1 : Df P w K mg base 2 "run_along" ["ways", "one", "other"] (spRunA K)) (D2 : Df P w K mg base 3 "run_against" ["ways", "one", "other"] (spRunG K)) (D3 : Df P w K mg base 4 "is_link" ["surface", "ways", "thing"] (spLink K)) :
    Df P w K mg base 5 "links_of" ["surface", "ways", "one", "other"] (spLinksOf K) := by
  refine df_mk F scLinksOf (fun _ => rfl) fun f cdv A outer s H E hr i hc => ?_
  have nd := scLinksOf.nd
  obtain ⟨S, W, x, y⟩ := i
  dsimp only at hc ⊢
  obtain ⟨hk, hx, hy⟩ := hc
  have hr2 := hr.mono (show 2 ≤ 4 by decide)
  have hr3 := hr.mono (show 3 ≤ 4 by decide)
  refine s_cons (s_asg 4 (P := fun z => z = dLk (.along x y (runAlong W x y))) (e_tup (a_cons e_str (a_cons (e_var 2) (a_cons (e_var 3) (a_cons (e_callF D1 (W, x, y) hr2 (a_cons (e_var 1) (a_cons (e_var 2) (a_cons (e_var 3) a_nil))) ⟨hk.wk, hx, hy⟩) a_nil))))) fun d hd => ?_)
  subst hd
  refine s_cons (s_asg 5 (P := fun z => z = dLk (.against x y (runAgainst W x y))) (e_tup (a_cons e_str (a_cons (e_var 2) (a_cons (e_var 3) (a_cons (e_callF D2 (W, x, y) hr3 (a_cons (e_var 1) (a_cons (e_var 2) (a_cons (e_var 3) a_nil))) ⟨hk.wk, hx, hy⟩) a_nil))))) fun d hd => ?_)
  subst hd
  refine s_one (s_retO (P := fun z => z = (linksOf S W x y).map dLk) ?_ fun d hd => by rw [hd])
  refine o_filt 6 (as := [Lk.beside x y, .along x y (runAlong W x y), .against x y (runAgainst W x y)]) (enc := dLk) (isLink S W) dLk (i_tupD (e_tup (a_cons (e_tup (a_cons e_str (a_cons (e_var 2) (a_cons (e_var 3) a_nil)))) (a_cons (e_var 4) (a_cons (e_var 5) a_nil))))) (show 3 < 1000000 by decide) (fun l hl s H C cl fp => ?_) fun l hl hp s H C cl fp => ?_
  · refine t_val (e_callF D3 (S, W, l) hr (a_cons (e_var 0) (a_cons (e_var 1) (a_cons (e_var 6) a_nil))) ⟨hk, ?_⟩)
    rcases (by simpa using hl : l = Lk.beside x y ∨ l = .along x y (runAlong W x y) ∨ l = .against x y (runAgainst W x y)) with rfl | rfl | rfl <;> exact ⟨hx, hy⟩
  · exact e_var 6
/-! links -/
def LR (S : List Nat) (W : Ws) (i p j q : Nat) : List Lk := (List.range q).flatMap fun q => linksOf S W (i, p) (j, q)
def LP (S : List Nat) (W : Ws) (i j p : Nat) : List Lk := (List.range p).flatMap fun p => LR S W i p j (wy W j).length
theorem LR_succ (S : List Nat) (W : Ws) (i p j q : Nat) : LR S W i p j (q + 1) = LR S W i p j q ++ linksOf S W (i, p) (j, q) := by
  unfold LR
  rw [List.range_succ, List.flatMap_append, List.flatMap_singleton]
theorem LP_succ (S : List Nat) (W : Ws) (i j p : Nat) : LP S W i j (p + 1) = LP S W i j p ++ LR S W i p j (wy W j).length := by
  unfold LP
  rw [List.range_succ, List.flatMap_append, List.flatMap_singleton]
theorem linksOf_len (S : List Nat) (W : Ws) (x y : Sd) : (linksOf S W x y).length ≤ 3 := List.length_filter_le ..
theorem LR_len (S : List Nat) (W : Ws) (i p j : Nat) : ∀ q, (LR S W i p j q).length ≤ 3 * q
  | 0 => Nat.le_refl 0
  | q + 1 => by
    rw [LR_succ, List.length_append]
    have := LR_len S W i p j q
    have := linksOf_len S W (i, p) (j, q)
    omega
theorem LP_len (S : List Nat) {W : Ws} (k : Wk W) (i : Nat) {j : Nat} (hj : j < W.length) : ∀ p, (LP S W i j p).length ≤ 300 * p
  | 0 => Nat.le_refl 0
  | p + 1 => by
    rw [LP_succ, List.length_append]
    have := LP_len S k i hj p
    have := LR_len S W i p j (wy W j).length
    have := k.len _ (wy_mem hj)
    omega
theorem lk_alike (a b : Lk) : PySem.W.alike (dLk a) (dLk b) = true := by
  cases a <;> cases b <;> (unfold dLk dS; simp only [PySem.W.alike, PySem.W.alikeAll, Bool.and_self, Bool.and_true])
theorem lk_depth (a : Lk) : (dLk a).depth ≤ 20 := by
  cases a <;> (unfold dLk dS; simp only [PyData.depth, PyData.depthAll]; decide)
abbrev sLinks : Stmt := topS 30
abbrev nLinks : List Str := ["surface", "ways", "i", "j", "found", "place", "spot"]
theorem scLinks : FnScope nLinks ["surface", "ways", "i", "j"] (defScope sLinks) := ⟨rfl, rfl, rfl, by decide +kernel, rfl, by decide +kernel, by decide +kernel⟩
abbrev spLinks (K : PySem.W.Frag) : Sp := spI K (fun i : List Nat × Ws × Nat × Nat => [dW i.1, dWs i.2.1, .int (i.2.2.1 : Int), .int (i.2.2.2 : Int)]) (fun i => Sk i.1 i.2.1 ∧ i.2.2.1 < i.2.1.length ∧ i.2.2.2 < i.2.1.length) (fun i r => ∃ es, r = .own es ∧ es.length = (linksL i.1 i.2.1 i.2.2.1 i.2.2.2).length)
theorem ok_links (T : Bl mg) (F : Dt K mg "links" sLinks ["surface", "ways", "i", "j"]) (D1 : Df P w K mg base 5 "links_of" ["surface", "ways", "one", "other"] (spLinksOf K)) :
    Df P w K mg base 6 "links" ["surface", "ways", "i", "j"] (spLinks K) := by
  refine df_mk F scLinks (fun _ => rfl) fun f cdv A outer s H E hr i hc => ?_
  have nd := scLinks.nd
  obtain ⟨S, W, i, j⟩ := i
  dsimp only at hc ⊢
  obtain ⟨hk, hi, hj⟩ := hc
  have li := hk.wk.len _ (wy_mem hi)
  have lj := hk.wk.len _ (wy_mem hj)
  refine s_cons (s_asgO 4 (o_lst a_nil) fun d hd => ?_)
  subst hd
  refine s_cons (s_forM (List.range (wy W i).length) nI (i_rngN T.range (e_lenW T.len (e_ixT (e_var 1) (e_var 2) (atI_ws hi)) (by omega)) (by omega)) (tg_name 5) (fun p Γ' => ∃ o1 o2, Γ' = [.dat (dW S), .dat (dWs W), .dat (.int (i : Int)), .dat (.int (j : Int)), .own ((LP S W i j p).map dLk), o1, o2]) ⟨_, _, rfl⟩ ?_ ?_)
  · rintro p a hka ha Γ' ⟨o1, o2, rfl⟩
    obtain ⟨rfl, hlt⟩ := range_at hka
    refine ⟨_, rfl, ?_⟩
    refine s_one (s_forM (List.range (wy W j).length) nI (i_rngN T.range (e_lenW T.len (e_ixT (e_var 1) (e_var 3) (atI_ws hj)) (by omega)) (by omega)) (tg_name 6) (fun q Γ' => ∃ o2, Γ' = [.dat (dW S), .dat (dWs W), .dat (.int (i : Int)), .dat (.int (j : Int)), .own ((LP S W i j a ++ LR S W i a j q).map dLk), .dat (nI a), o2]) ⟨o2, by unfold LR; rw [List.range_zero, List.flatMap_nil, List.append_nil]; rfl⟩ ?_ ?_)
    · rintro q b hkb hb Γ' ⟨o3, rfl⟩
      obtain ⟨rfl, hlb⟩ := range_at hkb
      refine ⟨_, rfl, ?_⟩
      refine s_one (s_extend (P := fun ys => ys = (linksOf S W (i, a) (j, b)).map dLk) 4 rfl (o_callF D1 (S, W, (i, a), (j, b)) hr (a_cons (e_var 0) (a_cons (e_var 1) (a_cons (e_tup (a_cons (e_var 2) (a_cons (e_var 5) a_nil))) (a_cons (e_tup (a_cons (e_var 3) (a_cons (e_var 6) a_nil))) a_nil)))) ⟨hk, ⟨hi, hlt⟩, ⟨hj, hlb⟩⟩) (fun ys hy => ?_) fun d hd => ?_)
      · rw [hy, List.length_map, List.length_map, List.length_append]
        have := LP_len S hk.wk i hj a
        have := LR_len S W i a j b
        have := linksOf_len S W (i, a) (j, b)
        omega
      · subst hd
        show ∃ o2, _ = [_, _, _, _, Sl.own ((LP S W i j a ++ LR S W i a j (b + 1)).map dLk), _, o2]
        rw [LR_succ, ← List.append_assoc, List.map_append (l₂ := linksOf S W (i, a) (j, b))]
        exact ⟨_, rfl⟩
    · rintro Γ' ⟨o3, rfl⟩
      rw [List.length_range]
      show ∃ o1 o2, _ = [_, _, _, _, Sl.own ((LP S W i j (a + 1)).map dLk), o1, o2]
      rw [LP_succ]
      exact ⟨_, _, rfl⟩
  · rintro Γ' ⟨o1, o2, rfl⟩
    rw [List.length_range]
    refine s_freeze 4 rfl (s_one (s_retO (P := fun es => es.Perm ((linksL S W i j).map dLk)) (o_sorted hr.units T.sorted (e_var 4) (fun a ha b hb => ?_) (.inl fun a ha => ?_) fun a ha => ?_) fun d hd => ⟨d, rfl, ?_⟩))
    · obtain ⟨x, _, rfl⟩ := List.mem_map.mp ha
      obtain ⟨y, _, rfl⟩ := List.mem_map.mp hb
      exact lk_alike x y
    · obtain ⟨x, _, rfl⟩ := List.mem_map.mp ha
      cases x <;> exact ⟨_, _, rfl⟩
    · obtain ⟨x, _, rfl⟩ := List.mem_map.mp ha
      exact lk_depth x
    · rw [hd.length_eq, List.length_map]
end
end Ly


set_option Elab.async false
set_option linter.all false
set_option maxRecDepth 100000
set_option maxHeartbeats 2000000
namespace Ly
open PySem PySem.Spec PyProof.Rows L2 Evl Rw
def dSpt (p : Spt) : PyData := .tuple [dL p.1, dS p.2]
def dChd (c : Chd) : PyData := .tuple [dS c.s, .int (c.a : Int), .int (c.b : Int)]
def dPr (p : Sd × Sd) : PyData := .tuple [dS p.1, dS p.2]
theorem abc : ("abcdef" : Str) = Tx [97, 98, 99, 100, 101, 102] := by decide +kernel
theorem ABC : ("ABCDEF" : Str) = Tx [65, 66, 67, 68, 69, 70] := by decide +kernel
theorem big_mem {c : Nat} (h : Lt c) : decide (c ∈ ("ABCDEF" : Str).cps.toList) = decide (c < 97) := by
  rcases lt_cases h with rfl | rfl | rfl | rfl | rfl | rfl | rfl | rfl | rfl | rfl | rfl | rfl <;> decide +kernel
theorem canL {α : Type} {enc : α → PyData} : ∀ {as : List α}, (∀ a ∈ as, (enc a).canLay0 = true) → PyData.canLayAll0 (as.map enc) = true
  | [], _ => by rw [List.map_nil, PyData.canLayAll0]
  | a :: as, h => by rw [List.map_cons, PyData.canLayAll0, h a List.mem_cons_self, canL fun b hb => h b (List.mem_cons_of_mem _ hb)]; rfl
theorem depL {α : Type} {enc : α → PyData} {n : Nat} : ∀ {as : List α}, (∀ a ∈ as, (enc a).depth ≤ n) → PyData.depthAll (as.map enc) ≤ n
  | [], _ => by rw [List.map_nil, PyData.depthAll]; exact Nat.zero_le _
  | a :: as, h => by
    rw [List.map_cons, PyData.depthAll]
    exact Nat.max_le.mpr ⟨h a List.mem_cons_self, depL fun b hb => h b (List.mem_cons_of_mem _ hb)⟩
theorem can_S (x : Sd) : (dS x).canLay0 = true := by unfold dS; simp only [PyData.canLay0, PyData.canLayAll0, Bool.and_self]
theorem can_L {c : Nat} (h : Lt c) : (dL c).canLay0 = true := by
  rcases lt_cases h with rfl | rfl | rfl | rfl | rfl | rfl | rfl | rfl | rfl | rfl | rfl | rfl <;> (unfold dL; rw [PyData.canLay0]; decide +kernel)
theorem can_Spt {p : Spt} (h : Lt p.1) : (dSpt p).canLay0 = true := by unfold dSpt; rw [PyData.canLay0, PyData.canLayAll0, PyData.canLayAll0, PyData.canLayAll0, can_L h, can_S]; rfl
theorem dep_Spt (p : Spt) : (dSpt p).depth ≤ 2 := by unfold dSpt; rw [PyData.depth, PyData.depthAll, PyData.depthAll, PyData.depthAll, depth_S]; unfold dL; rw [PyData.depth]; decide
theorem shape_Spt {p : Spt} (h : Lt p.1) : SeqAt.shaped (dSpt p) = true := by
  unfold SeqAt.shaped
  rw [can_Spt h, decide_eq_true (Nat.le_trans (dep_Spt p) (by decide))]
  rfl
theorem shape_Spts {L : List Spt} (h : ∀ p ∈ L, Lt p.1) : SeqAt.shaped (.list (L.map dSpt)) = true := by
  unfold SeqAt.shaped
  rw [PyData.canLay0, canL fun a ha => can_Spt (h a ha), decide_eq_true ?_]
  · rfl
  · rw [PyData.depth]
    have := depL (n := 2) (as := L) (enc := dSpt) fun a _ => dep_Spt a
    omega
theorem eqv_L (a b : Nat) : PyData.eqv (dL a) (dL b) = decide (a = b) := by
  unfold dL
  rw [PyData.eqv]
  exact tx1_ne a b
theorem eqv_S (x y : Sd) : PyData.eqv (dS x) (dS y) = decide (x = y) := by
  unfold dS
  rw [PyData.eqv, PyData.eqvAll, PyData.eqvAll, PyData.eqvAll, PyData.eqv, PyData.eqv, Bool.and_true, Bool.eq_iff_iff]
  simp only [Bool.and_eq_true, beq_iff_eq, decide_eq_true_eq]
  constructor
  · rintro ⟨h1, h2⟩
    exact Prod.ext (by omega) (by omega)
  · rintro rfl
    exact ⟨rfl, rfl⟩
theorem eqv_Spt (p q : Spt) : PyData.eqv (dSpt p) (dSpt q) = decide (p = q) := by
  unfold dSpt
  rw [PyData.eqv, PyData.eqvAll, PyData.eqvAll, PyData.eqvAll, eqv_L, eqv_S, Bool.and_true, Bool.eq_iff_iff]
  simp only [Bool.and_eq_true, decide_eq_true_eq]
  constructor
  · rintro ⟨h1, h2⟩
    exact Prod.ext h1 h2
  · rintro rfl
    exact ⟨rfl, rfl⟩
section
variable {X : Cx} {tp : TPar} {Γ : List Sl} {tg iter e a b c elt : Expr} {pos apos p2 p3 q1 q2 q3 : Pos} {op : CmpOp}
theorem e_lidxSpt {L : List Spt} {q : Spt} (hu : X.A.units + 65 < cLine) (h : Ed X tp Γ e (.list (L.map dSpt))) (ha : Ed X tp Γ a (dSpt q)) (hq : q ∈ L) (hL : ∀ p ∈ L, Lt p.1)
    (hs : starEach [a] X.env = (false, eval a X.env) :: starEach [] X.env := by rfl) (hbase : attributeBase e "index" X.env (eval e X.env) = eval e X.env := by rfl) (hline : (apos.endLine == pos.line) = true := by rfl)
    (hfew : ((backTo pos (starEach [a] X.env)).all (fun x => !x.1) && (backToKw pos (keywordEach [] X.env)).all (fun x => x.1.isSome) && decide (([a] : List Expr).length + ([] : List Keyword).length + (if ([] : List Keyword).isEmpty then 0 else 1) < 30)) = true := by rfl)
    (hpl : (backTo pos (starEach [] X.env)).any (·.1) = false := by rfl) :
    Ed X tp Γ (.Call (.Attribute e "index" apos) [a] [] pos) (.int (L.idxOf q : Nat)) := by
  have lt := List.idxOf_lt_length_iff.mpr hq
  refine e_lindex (z := dSpt q) hu h ha (shape_Spts hL) (shape_Spt (hL q hq)) ?_ (by rw [eqv_Spt]; exact decide_eq_true rfl) (fun m z' hm hz => ?_) hs hbase hline hfew hpl
  · rw [List.getElem?_map, List.getElem?_eq_getElem lt, List.getElem_idxOf]; rfl
  · rw [List.getElem?_map] at hz
    cases hx : L[m]? with
    | none => rw [hx] at hz; cases hz
    | some r =>
      rw [hx] at hz
      cases hz
      rw [eqv_Spt]
      refine decide_eq_false fun z => ?_
      obtain ⟨hml, er⟩ := List.getElem?_eq_some_iff.mp hx
      have hne := List.not_of_lt_findIdx (p := (· == q)) (xs := L) (i := m) hm
      rw [er, z] at hne
      simp at hne
end
section
variable {P : Program} {w : World} {K : PySem.W.Frag} {mg : Str → Option Value} {base : Heap}
abbrev sLBack : Stmt := topS 34
theorem scLBack : FnScope ["_law_word", "_law_sign"] ["_law_word"] (defScope sLBack) := ⟨rfl, rfl, rfl, by decide +kernel, rfl, by decide +kernel, by decide +kernel⟩
theorem ok_lback (T : Bl mg) (F : Dt K mg "_law_back" sLBack ["_law_word"]) : Df P w K mg base 1 "_law_back" ["_law_word"] (spBack K) := by
  refine df_mk F scLBack (fun _ => rfl) fun f cdv A outer s H E hr c hc => ?_
  have nd := scLBack.nd
  refine s_one (s_ret (P := fun y => y = dW (backW c)) ?_ fun d hd => by rw [hd])
  refine e_eq (e_join (P := fun y => y = .list (c.reverse.map fun c => dL (bk c))) (ss := (backW c).map fun c => Tx [c]) e_str (ed_ofO (o_map 1 (as := c.reverse) (enc := dL) (fun c => dL (bk c)) (i_strW (e_revW (e_var 0) (by omega))) ?_ fun d hd s H C cl fp => ?_)) ?_ ?_) ?_
  · rw [List.length_reverse]; omega
  · have hl := hc.1 d (List.mem_reverse.mp hd)
    refine e_if (P := fun b => b = decide (d < 97)) (t_eq (t_cmp (c_in (e_var 1) e_str)) (big_mem hl)) (fun h => ?_) fun h => ?_
    · exact e_eq (e_lower (e_var 1) (by show 1 ≤ 100000; decide)) (congrArg PyData.str (lower1B hl (by have := of_decide_eq_true h.symm; omega)))
    · exact e_eq (e_upper (e_var 1) (by show 1 ≤ 100000; decide)) (congrArg PyData.str (upper1 hl (by have := of_decide_eq_false h.symm; omega)))
  · intro d hd
    rw [hd]
    unfold backW
    rw [List.map_map, List.map_map]
    exact .inl rfl
  · rw [ones_len]
    unfold backW
    rw [List.length_map, List.length_map, List.length_reverse]
    show c.length + c.length * 0 ≤ 16777216
    omega
  · rw [join_one]
    rfl
abbrev sLStrands : Stmt := topS 40
abbrev nLStrands : List Str := ["_law_ways", "_law_found", "_law_i", "_law_p"]
theorem scLStrands : FnScope nLStrands ["_law_ways"] (defScope sLStrands) := ⟨rfl, rfl, rfl, by decide +kernel, rfl, by decide +kernel, by decide +kernel⟩
theorem ok_lstrands (T : Bl mg) (F : Dt K mg "_law_all_strands" sLStrands ["_law_ways"]) : Df P w K mg base 1 "_law_all_strands" ["_law_ways"] (spStrandsOf K) := by
  refine df_mk F scLStrands (fun _ => rfl) fun f cdv A outer s H E hr W hk => ?_
  have nd := scLStrands.nd
  have hf := hk.few
  refine s_cons (s_asgO 1 (o_lst a_nil) fun d hd => ?_)
  subst hd
  refine s_cons (s_forM (List.range W.length) nI (i_rngN T.range (e_lenTM T.len (e_var 0) (by omega)) (by omega)) (tg_name 2)
    (fun k Γ' => ∃ o1 o2, Γ' = [.dat (dWs W), .own ((SO W k).map dS), o1, o2]) ⟨_, _, rfl⟩ ?_ ?_)
  · rintro k a hka ha Γ' ⟨o1, o2, rfl⟩
    obtain ⟨rfl, hlt⟩ := range_at hka
    refine ⟨_, rfl, ?_⟩
    have hl := hk.len _ (wy_mem hlt)
    have hl2 := SO_len hk a (by omega)
    refine s_one (s_extend (P := fun ys => ys = (List.range (wy W a).length).map fun p => dS (a, p)) 1 rfl (o_map 3 (enc := nI) (fun p => dS (a, p)) (i_rngN T.range (e_lenW T.len (e_ixT (e_var 0) (e_var 2) (atI_ws hlt)) (by omega)) (by omega)) (by rw [List.length_range]; omega) fun d hd s H C cl fp => ?_) (fun ys hy => ?_) fun d hd => ?_)
    · exact e_tup (a_cons (e_var 2) (a_cons (e_var 3) a_nil))
    · subst hy
      rw [List.length_map, List.length_map, List.length_range]
      omega
    · subst hd
      show ∃ o1 o2, _ = [_, Sl.own ((SO W (a + 1)).map dS), o1, o2]
      rw [SO_succ, List.map_append, List.map_map]
      exact ⟨_, _, rfl⟩
  · rintro Γ' ⟨o1, o2, rfl⟩
    rw [List.length_range]
    exact s_one (s_retM 1 rfl rfl)
abbrev sSpots : Stmt := topS 41
abbrev nSpots : List Str := ["_law_surface", "_law_drawing", "_law_found", "_law_end", "_law_row", "_law_strand"]
theorem scSpots : FnScope nSpots ["_law_surface", "_law_drawing"] (defScope sSpots) := ⟨rfl, rfl, rfl, by decide +kernel, rfl, by decide +kernel, by decide +kernel⟩
/-- plain facts of a drawing -/
structure Dk (S : List Nat) (D : Dw) : Prop where
  lt : ∀ c ∈ S, Lt c
  ix : ∀ c ∈ S, low c - 97 < D.length
  len : S.length ≤ 12
  row : ∀ r ∈ D, r.length ≤ 1000
theorem low_ge {c : Nat} (h : Lt c) : 97 ≤ low c ∧ low c < 103 := by unfold low Lt at *; split <;> omega
theorem idx_abc {n : Nat} (h : 97 ≤ n ∧ n < 103) : ([97, 98, 99, 100, 101, 102] : List Nat).idxOf n = n - 97 ∧ n ∈ ([97, 98, 99, 100, 101, 102] : List Nat) := by
  have : n = 97 ∨ n = 98 ∨ n = 99 ∨ n = 100 ∨ n = 101 ∨ n = 102 := by omega
  rcases this with rfl | rfl | rfl | rfl | rfl | rfl <;> exact ⟨by decide, by decide⟩
def spotRow (D : Dw) (e : Nat) : List Sd := if 97 ≤ e then rowAt D (low e - 97) else (rowAt D (low e - 97)).reverse
theorem spot_snoc (D : Dw) (S : List Nat) (e : Nat) : spotsM (S ++ [e]) D = spotsM S D ++ (spotRow D e).map fun s => (e, s) := by
  unfold spotsM
  rw [List.flatMap_append, List.flatMap_singleton]
  rfl
theorem row_mem {D : Dw} {n : Nat} (h : n < D.length) : D[n]? = some (rowAt D n) ∧ rowAt D n ∈ D := by
  have e : D[n]? = some (rowAt D n) := by
    unfold rowAt
    rw [List.getD_eq_getElem?_getD, List.getElem?_eq_getElem h]; rfl
  exact ⟨e, List.mem_of_getElem? e⟩
theorem spot_len {S : List Nat} {D : Dw} (k : Dk S D) : ∀ n, (spotsM (S.take n) D).length ≤ 1000 * n
  | 0 => Nat.le_refl 0
  | n + 1 => by
    rcases Nat.lt_or_ge n S.length with h | h
    · rw [List.take_succ_eq_append_getElem h, spot_snoc, List.length_append, List.length_map]
      have := spot_len k n
      have h2 := k.row _ (row_mem (k.ix _ (List.getElem_mem h))).2
      have : (spotRow D S[n]).length ≤ 1000 := by
        unfold spotRow
        split
        · exact h2
        · rw [List.length_reverse]; exact h2
      omega
    · have e : S.take (n + 1) = S.take n := by rw [List.take_of_length_le h, List.take_of_length_le (by omega)]
      rw [e]
      have := spot_len k n
      omega
abbrev spSpots (K : PySem.W.Frag) : Sp := spO K (fun i : List Nat × Dw => [dW i.1, dD i.2]) (fun i => Dk i.1 i.2) (fun i => (spotsM i.1 i.2).map dSpt)
theorem ok_spots (T : Bl mg) (F : Dt K mg "_law_all_spots" sSpots ["_law_surface", "_law_drawing"]) : Df P w K mg base 1 "_law_all_spots" ["_law_surface", "_law_drawing"] (spSpots K) := by
  refine df_mk F scSpots (fun _ => rfl) fun f cdv A outer s H E hr i hk => ?_
  have nd := scSpots.nd
  obtain ⟨S, D⟩ := i
  dsimp only at hk ⊢
  have hS := hk.len
  refine s_cons (s_asgO 2 (o_lst a_nil) fun d hd => ?_)
  subst hd
  refine s_cons (s_forM S dL (i_strW (e_var 0)) (tg_name 3) (fun k Γ' => ∃ o1 o2 o3, Γ' = [.dat (dW S), .dat (dD D), .own ((spotsM (S.take k) D).map dSpt), o1, o2, o3]) ⟨_, _, _, rfl⟩ ?_ ?_)
  · rintro k e hke he Γ' ⟨o1, o2, o3, rfl⟩
    refine ⟨_, rfl, ?_⟩
    have hlt := hk.lt e he
    have hix := row_mem (hk.ix e he)
    have hrl := hk.row _ hix.2
    have hi := idx_abc (low_ge hlt)
    have hsl := spot_len hk k
    have hkl : k < S.length := (List.getElem?_eq_some_iff.mp hke).1
    refine s_cons (s_asgO 4 (o_list (ds := (rowAt D (low e - 97)).map dS) T.list (.inr (e_ixT (ds := D.map dRow) (e_var 1) (e_sidxW (S := [97, 98, 99, 100, 101, 102]) (e_eq e_str (congrArg PyData.str abc)) (e_lowL (e_var 3) hlt) hi.2) (atI_map (enc := dRow) (by rw [hi.1]; exact hix.1))))) fun d hd => ?_)
    subst hd
    refine s_cons (s_if (P := fun b => b = decide (e < 97)) (t_eq (t_cmp (c_in (e_var 3) e_str)) (big_mem hlt)) (fun h => s_one (s_reverse 4 rfl ?_)) (fun h => s_nil ?_))
    · have h' := of_decide_eq_true h.symm
      have er : (rowAt D (low e - 97)).reverse = spotRow D e := by
        unfold spotRow
        rw [if_neg (by omega)]
      refine s_freeze 4 rfl ?_
      refine s_one (s_extend (P := fun ys => ys = (spotRow D e).map fun s => dSpt (e, s)) 2 rfl (o_map 5 (as := spotRow D e) (enc := dS) (fun s => dSpt (e, s)) (i_mono (i_listD (e_var 4)) fun ds hd => by rw [hd, ← er]; exact List.map_reverse.symm) (by rw [← er]; rw [List.length_reverse]; omega) fun d hd s H C cl fp => ?_) (fun ys hy => ?_) fun d hd => ?_)
      · exact e_tup (a_cons (e_var 3) (a_cons (e_var 5) a_nil))
      · subst hy
        rw [List.length_map, List.length_map, ← er]
        rw [List.length_reverse]
        omega
      · subst hd
        show ∃ o1 o2 o3, _ = [_, _, Sl.own ((spotsM (S.take (k + 1)) D).map dSpt), o1, o2, o3]
        rw [take_step hke, spot_snoc, List.map_append, List.map_map]
        exact ⟨_, _, _, rfl⟩
    · have h' := of_decide_eq_false h.symm
      have er : rowAt D (low e - 97) = spotRow D e := by
        unfold spotRow
        rw [if_pos (by omega)]
      refine s_freeze 4 rfl ?_
      refine s_one (s_extend (P := fun ys => ys = (spotRow D e).map fun s => dSpt (e, s)) 2 rfl (o_map 5 (as := spotRow D e) (enc := dS) (fun s => dSpt (e, s)) (i_mono (i_listD (e_var 4)) fun ds hd => by rw [hd, ← er]) (by rw [← er]; omega) fun d hd s H C cl fp => ?_) (fun ys hy => ?_) fun d hd => ?_)
      · exact e_tup (a_cons (e_var 3) (a_cons (e_var 5) a_nil))
      · subst hy
        rw [List.length_map, List.length_map, ← er]
        skip
        omega
      · subst hd
        show ∃ o1 o2 o3, _ = [_, _, Sl.own ((spotsM (S.take (k + 1)) D).map dSpt), o1, o2, o3]
        rw [take_step hke, spot_snoc, List.map_append, List.map_map]
        exact ⟨_, _, _, rfl⟩
  · rintro Γ' ⟨o1, o2, o3, rfl⟩
    rw [List.take_length]
    exact s_one (s_retM 2 rfl rfl)
end
end Ly


set_option Elab.async false
set_option linter.all false
set_option maxRecDepth 100000
set_option maxHeartbeats 2000000
namespace Ly
open PySem PySem.Spec PyProof.Rows L2 Evl Rw
section
variable {P : Program} {w : World} {K : PySem.W.Frag} {mg : Str → Option Value} {base : Heap}
theorem spots_lt {S : List Nat} {D : Dw} (k : Dk S D) : ∀ p ∈ spotsM S D, Lt p.1 := fun p hp => by
  unfold spotsM at hp
  obtain ⟨e, he, hp⟩ := List.mem_flatMap.mp hp
  obtain ⟨s, _, rfl⟩ := List.mem_map.mp hp
  exact k.lt e he
theorem lat_mv (W : Ws) (s : Sd) (j k : Int) : lat W (mv W s j) k = lat W s (j + k) := by
  unfold lat mv
  show atW (wy W s.1) (((((s.2 : Int) + j) % ((wy W s.1).length : Int)).toNat : Int) + k) = atW (wy W s.1) ((s.2 : Int) + (j + k))
  by_cases h : (wy W s.1).length = 0
  · have e : wy W s.1 = [] := List.length_eq_zero_iff.mp h
    rw [e]
    unfold atW
    simp
  · rw [Int.toNat_of_nonneg (Int.emod_nonneg _ (by omega))]
    exact atW_mod _ (by rw [← Int.add_assoc, Int.emod_add_emod])
abbrev sChords : Stmt := topS 42
abbrev nChords : List Str := ["_law_surface", "_law_ways", "_law_drawing", "_law_spots", "_law_found", "_law_i", "_law_p", "_law_follower", "_law_begin"]
theorem scChords : FnScope nChords ["_law_surface", "_law_ways", "_law_drawing"] (defScope sChords) := ⟨rfl, rfl, rfl, by decide +kernel, rfl, by decide +kernel, by decide +kernel⟩
abbrev spChords (K : PySem.W.Frag) : Sp := spO K (fun i : List Nat × Ws × Dw => [dW i.1, dWs i.2.1, dD i.2.2]) (fun i => Wk i.2.1 ∧ Dk i.1 i.2.2 ∧ Pk i.1 i.2.1 i.2.2) (fun i => ((strandsOf i.2.1).map (chordM i.1 i.2.1 i.2.2)).map dChd)
theorem wy_ix {W : Ws} {s : Sd} (h : isS W s) : atI (wy W s.1) (s.2 : Int) = some (lat W s 0) := by
  have := atW_atI (in_way h) (s.2 : Int)
  rw [Int.emod_eq_of_lt (by omega) (by have := h.2; omega)] at this
  rw [this]
  unfold lat
  rw [Int.add_zero]
theorem ok_chords (T : Bl mg) (F : Dt K mg "_law_all_chords" sChords ["_law_surface", "_law_ways", "_law_drawing"]) (D1 : Df P w K mg base 1 "_law_all_spots" ["_law_surface", "_law_drawing"] (spSpots K)) (D2 : Df P w K mg base 1 "_law_all_strands" ["_law_ways"] (spStrandsOf K)) (D3 : Df P w K mg base 1 "_law_back" ["_law_word"] (spBack K)) :
    Df P w K mg base 2 "_law_all_chords" ["_law_surface", "_law_ways", "_law_drawing"] (spChords K) := by
  refine df_mk F scChords (fun _ => rfl) fun f cdv A outer s H E hr i hc => ?_
  have nd := scChords.nd
  obtain ⟨S, W, D⟩ := i
  dsimp only at hc ⊢
  obtain ⟨hk, hd, hp⟩ := hc
  have hfew := strands_few hk
  refine s_cons (s_asgO 3 (o_callF D1 (S, D) hr (a_cons (e_var 0) (a_cons (e_var 2) a_nil)) hd) fun d he => ?_)
  subst he
  refine s_cons (s_asgO 4 (o_lst a_nil) fun d hd => ?_)
  subst hd
  refine s_cons (s_forM (strandsOf W) dS (i_own (o_callF D2 W hr (a_cons (e_var 1) a_nil) hk)) (tg_two 5 6)
    (fun k Γ' => ∃ o1 o2 o3 o4, Γ' = [.dat (dW S), .dat (dWs W), .dat (dD D), .own ((spotsM S D).map dSpt), .own (((strandsOf W).take k).map fun s => dChd (chordM S W D s)), o1, o2, o3, o4]) ⟨_, _, _, _, rfl⟩ ?_ ?_)
  · rintro k x hkx hx Γ' ⟨o1, o2, o3, o4, rfl⟩
    refine ⟨_, ⟨_, _, rfl, rfl⟩, ?_⟩
    have hs := strands_is hx
    have hl := hk.len _ (wy_mem hs.1)
    have hm := mv_isS hs 1
    have h1 := hp x hs
    have h2 := hp _ hm
    rw [lat_mv, Int.add_zero] at h2
    have hpos : 0 < (wy W x.1).length := Nat.lt_of_le_of_lt (Nat.zero_le _) hs.2
    have ef : ((x.2 : Int) + 1) % ((wy W x.1).length : Int) = ((mv W x 1).2 : Int) := by
      show _ = ((((x.2 : Int) + 1) % ((wy W x.1).length : Int)).toNat : Int)
      rw [Int.toNat_of_nonneg (Int.emod_nonneg _ (by omega))]
    refine s_cons (s_asg 7 (P := fun z => z = .int ((mv W x 1).2 : Int)) (e_eq (e_mod (e_add (e_var 6) e_int) (e_lenW T.len (e_ixT (e_var 1) (e_var 5) (atI_ws hs.1)) (by omega)) (by omega)) (congrArg PyData.int ef)) fun d hd => ?_)
    subst hd
    have hm1 : atI (wy W x.1) ((mv W x 1).2 : Int) = some (lat W x 1) := by
      have := wy_ix hm
      rw [lat_mv] at this
      exact this
    refine s_cons (s_asg 8 (P := fun z => z = .int ((spotsM S D).idxOf (bk (lat W x 0), x) : Nat)) (e_tmp 3 rfl (e_lidxSpt (L := spotsM S D) (q := (bk (lat W x 0), x)) ?_ (e_var 3) (e_tup (a_cons (e_callF D3 [lat W x 0] (d := dL (bk (lat W x 0))) hr (a_cons (e_ixW (e_ixT (e_var 1) (e_var 5) (atI_ws hs.1)) (e_var 6) (by omega) (wy_ix hs)) a_nil) ⟨?_, ?_⟩) (a_cons (e_tup (a_cons (e_var 5) (a_cons (e_var 6) a_nil))) a_nil))) h1.1 (spots_lt hd)) fun d hd => by rw [hd]; rfl) fun d hd => ?_)
    · have := hr.un; omega
    · intro c hc
      rw [List.mem_singleton.mp hc]
      exact lat_lt hk hs 0
    · show 1 ≤ 1000; decide
    subst hd
    refine s_one (s_append (P := fun z => z = dChd (chordM S W D x)) 4 rfl (e_tup (a_cons (e_tup (a_cons (e_var 5) (a_cons (e_var 6) a_nil))) (a_cons (e_var 8) (a_cons (e_tmp 3 rfl (e_lidxSpt (L := spotsM S D) (q := (lat W x 1, mv W x 1)) ?_ (e_var 3) (e_tup (a_cons (e_ixW (e_ixT (e_var 1) (e_var 5) (atI_ws hs.1)) (e_var 7) (by omega) hm1) (a_cons (e_tup (a_cons (e_var 5) (a_cons (e_var 7) a_nil))) a_nil))) h2.2 (spots_lt hd)) fun d hd => by rw [hd]; rfl) a_nil)))) ?_ fun d hd => ?_)
    · have := hr.un; omega
    · rw [List.length_map, List.length_take]; omega
    · subst hd
      show ∃ o1 o2 o3 o4, _ = [_, _, _, _, Sl.own (((strandsOf W).take (k + 1)).map fun s => dChd (chordM S W D s)), o1, o2, o3, o4]
      rw [take_step hkx, List.map_append]
      exact ⟨_, _, _, _, rfl⟩
  · rintro Γ' ⟨o1, o2, o3, o4, rfl⟩
    rw [List.take_length]
    refine s_one (s_retM 4 rfl ?_)
    show Rv.own _ = Rv.own _
    rw [List.map_map]
    rfl
abbrev sCross : Stmt := topS 43
abbrev nCross : List Str := ["_law_one", "_law_other", "_law_low", "_law_high", "_law_place"]
theorem scCross : FnScope nCross ["_law_one", "_law_other"] (defScope sCross) := ⟨rfl, rfl, rfl, by decide +kernel, rfl, by decide +kernel, by decide +kernel⟩
abbrev spCross (K : PySem.W.Frag) : Sp := spF K (fun i : Chd × Chd => [dChd i.1, dChd i.2]) (fun _ => True) (fun i => .bool (crossM i.1 i.2))
theorem cross_len (c d : Chd) : decide (((([d.a, d.b].filter fun (x : Nat) => decide (((min (c.a : Int) (c.b : Int)) < (x : Int))) && decide ((x : Int) < max (c.a : Int) (c.b : Int))).length : Nat) : Int) = 1) = crossM c d := by
  have e : ∀ x : Nat, (decide (((min (c.a : Int) (c.b : Int)) < (x : Int))) && decide ((x : Int) < max (c.a : Int) (c.b : Int))) = btw c.a c.b x := fun x => by
    unfold btw
    rw [Bool.eq_iff_iff, Bool.and_eq_true, decide_eq_true_eq, decide_eq_true_eq, decide_eq_true_eq]
    omega
  simp only [e]
  unfold crossM crs
  cases h1 : btw c.a c.b d.a <;> cases h2 : btw c.a c.b d.b <;> simp [List.filter_cons, h1, h2]
theorem ok_cross (T : Bl mg) (F : Dt K mg "_law_crosses" sCross ["_law_one", "_law_other"]) : Df P w K mg base 1 "_law_crosses" ["_law_one", "_law_other"] (spCross K) := by
  refine df_mk F scCross (fun _ => rfl) fun f cdv A outer s H E hr i hc => ?_
  have nd := scCross.nd
  obtain ⟨c, d⟩ := i
  dsimp only at hc ⊢
  refine s_cons (s_unl 2 3 (ed_ofO (o_sortT2 (i := c.a) (j := c.b) T.sorted (e_eq (e_slT (e_var 0) (po_yes e_int) po_no) rfl))) ?_)
  refine s_one (s_ret (P := fun z => z = .bool (crossM c d)) ?_ fun d hd => by rw [hd])
  refine e_eq (ed_cmp (c_eq (e_lenLM T.len (ed_ofO (o_filt 4 (as := [d.a, d.b]) (enc := nI) (fun (x : Nat) => decide (((min (c.a : Int) (c.b : Int)) < (x : Int))) && decide ((x : Int) < max (c.a : Int) (c.b : Int))) nI (i_tupD (e_eq (e_slT (e_var 1) (po_yes e_int) po_no) rfl)) (show 2 < 1000000 by decide) (fun x hx s H C cl fp => ?_) fun x hx hp s H C cl fp => ?_)) ?_) e_int rfl)) (congrArg PyData.bool (cross_len c d))
  · exact t_chain (e_var 2) (e_var 4) (e_var 3)
  · exact e_var 4
  · exact Nat.le_trans (List.length_filter_le ..) (show 2 ≤ 1000000 by decide)
end
end Ly


set_option Elab.async false
set_option linter.all false
set_option maxRecDepth 100000
set_option maxHeartbeats 2000000
namespace Ly
open PySem PySem.Spec PyProof.Rows L2 Evl Rw
theorem pairsUp_drop {α : Type} {L : List α} {k : Nat} {x : α} (h : L[k]? = some x) : pairsUp (L.drop k) = (L.drop (k + 1)).map (fun y => (x, y)) ++ pairsUp (L.drop (k + 1)) := by
  obtain ⟨l, e⟩ := List.getElem?_eq_some_iff.mp h
  rw [List.drop_eq_getElem_cons l, e]
  rfl
def CX (L : List Chd) : List (Sd × Sd) := ((pairsUp L).filter fun p => crossM p.1 p.2).map fun p => (p.1.s, p.2.s)
theorem CX_drop {L : List Chd} {k : Nat} {x : Chd} (h : L[k]? = some x) : CX (L.drop k) = ((L.drop (k + 1)).filter (crossM x)).map (fun y => (x.s, y.s)) ++ CX (L.drop (k + 1)) := by
  unfold CX
  rw [pairsUp_drop h, List.filter_append, List.map_append, List.filter_map, List.map_map]
  rfl
theorem pairsUp_len {α : Type} : ∀ L : List α, (pairsUp L).length ≤ L.length * L.length
  | [] => Nat.le_refl 0
  | x :: L => by
    unfold pairsUp
    rw [List.length_append, List.length_map, List.length_cons]
    have := pairsUp_len L
    have e : (L.length + 1) * (L.length + 1) = L.length * L.length + 2 * L.length + 1 := by rw [Nat.add_mul, Nat.mul_add]; omega
    omega
theorem CX_len (L : List Chd) : (CX L).length ≤ L.length * L.length := by
  unfold CX
  rw [List.length_map]
  exact Nat.le_trans (List.length_filter_le ..) (pairsUp_len L)
section
variable {X : Cx} {tp : TPar} {Γ : List Sl} {e a : Expr} {pos p2 : Pos} {α : Type} {as : List α} {enc : α → PyData}
theorem cut_fromD (n : Nat) : cutD (as.map enc) (some (n : Int)) none = (as.drop n).map enc := by
  unfold cutD
  rw [HT.sIx_nat, HT.sIx_none, List.length_map, ← List.map_drop, ← List.map_take]
  congr 1
  rw [List.take_of_length_le (by rw [List.length_drop]; omega)]
  rcases Nat.le_total n as.length with h | h
  · rw [Nat.min_eq_left h]
  · rw [Nat.min_eq_right h, List.drop_length, List.drop_eq_nil_of_le h]
theorem cut_toD (n : Nat) : cutD (as.map enc) none (some (n : Int)) = (as.take n).map enc := by
  unfold cutD
  rw [HT.sIx_nat, HT.sIx_none, List.length_map, List.drop_zero, Nat.sub_zero, ← List.map_take]
  congr 1
  rcases Nat.le_total n as.length with h | h
  · rw [Nat.min_eq_left h]
  · rw [Nat.min_eq_right h, List.take_length, List.take_of_length_le h]
theorem o_fromM {n : Nat} (he : Ed X tp Γ e (.list (as.map enc))) (ha : Ed X tp Γ a (.int (n : Int))) : Od X tp Γ (.Subscript e (.Slice (some a) none none p2) pos) ((as.drop n).map enc) :=
  o_mono (o_slL he (po_yes ha) po_no) fun d hd => hd.trans (cut_fromD n)
theorem o_toM {n : Nat} (he : Ed X tp Γ e (.list (as.map enc))) (ha : Ed X tp Γ a (.int (n : Int))) : Od X tp Γ (.Subscript e (.Slice none (some a) none p2) pos) ((as.take n).map enc) :=
  o_mono (o_slL he po_no (po_yes ha)) fun d hd => hd.trans (cut_toD n)
end
section
variable {P : Program} {w : World} {K : PySem.W.Frag} {mg : Str → Option Value} {base : Heap}
abbrev sCrossings : Stmt := topS 44
abbrev nCrossings : List Str := ["_law_surface", "_law_ways", "_law_drawing", "_law_lines", "_law_found", "_law_k", "_law_more", "_law_other"]
theorem scCrossings : FnScope nCrossings ["_law_surface", "_law_ways", "_law_drawing"] (defScope sCrossings) := ⟨rfl, rfl, rfl, by decide +kernel, rfl, by decide +kernel, by decide +kernel⟩
abbrev spCrossings (K : PySem.W.Frag) : Sp := spO K (fun i : List Nat × Ws × Dw => [dW i.1, dWs i.2.1, dD i.2.2]) (fun i => Wk i.2.1 ∧ Dk i.1 i.2.2 ∧ Pk i.1 i.2.1 i.2.2 ∧ (strandsOf i.2.1).length ≤ 100) (fun i => (crossingsM i.1 i.2.1 i.2.2).map dPr)
theorem ok_crossings (T : Bl mg) (F : Dt K mg "_law_all_crossings" sCrossings ["_law_surface", "_law_ways", "_law_drawing"]) (D1 : Df P w K mg base 2 "_law_all_chords" ["_law_surface", "_law_ways", "_law_drawing"] (spChords K)) (D2 : Df P w K mg base 1 "_law_crosses" ["_law_one", "_law_other"] (spCross K)) :
    Df P w K mg base 3 "_law_all_crossings" ["_law_surface", "_law_ways", "_law_drawing"] (spCrossings K) := by
  refine df_mk F scCrossings (fun _ => rfl) fun f cdv A outer s H E hr i hc => ?_
  have nd := scCrossings.nd
  obtain ⟨S, W, D⟩ := i
  dsimp only at hc ⊢
  obtain ⟨hk, hd, hp, hfew⟩ := hc
  have hr1 := hr.mono (show 1 ≤ 2 by decide)
  have eL : crossingsM S W D = CX ((strandsOf W).map (chordM S W D)) := rfl
  have hL : ((strandsOf W).map (chordM S W D)).length ≤ 100 := by rw [List.length_map]; exact hfew
  rw [eL]
  refine s_cons (s_asgO 3 (o_callF D1 (S, W, D) hr (a_cons (e_var 0) (a_cons (e_var 1) (a_cons (e_var 2) a_nil))) ⟨hk, hd, hp⟩) fun d he => ?_)
  subst he
  show Ly.S _ _ ((Gam0 nCrossings [dW S, dWs W, dD D]).set 3 (.own (((strandsOf W).map (chordM S W D)).map dChd))) _ _
  generalize (strandsOf W).map (chordM S W D) = L at *
  have hC := CX_len L
  have hC2 : L.length * L.length ≤ 100 * 100 := Nat.mul_le_mul hL hL
  refine s_freeze 3 rfl ?_
  refine s_cons (s_asgO 4 (o_lst a_nil) fun d hd => ?_)
  subst hd
  refine s_cons (s_forM (List.range L.length) nI (i_rngN T.range (e_lenLM T.len (e_var 3) (by omega)) (by omega)) (tg_name 5)
    (fun k Γ' => ∃ acc, acc ++ CX (L.drop k) = CX L ∧ ∃ o1 o2 o3, Γ' = [.dat (dW S), .dat (dWs W), .dat (dD D), .dat (.list (L.map dChd)), .own (acc.map dPr), o1, o2, o3]) ⟨[], rfl, _, _, _, rfl⟩ ?_ ?_)
  · rintro k a hka ha Γ' ⟨acc, hacc, o1, o2, o3, rfl⟩
    obtain ⟨rfl, hlt⟩ := range_at hka
    refine ⟨_, rfl, ?_⟩
    have hx : L[a]? = some L[a] := List.getElem?_eq_getElem hlt
    have eC := CX_drop hx
    generalize L[a] = x at *
    refine s_cons (s_asgO 6 (o_fromM (n := a + 1) (e_var 3) (e_eq (e_add (e_var 5) e_int) (congrArg PyData.int (by omega)))) fun d hd => ?_)
    subst hd
    refine s_freeze 6 rfl ?_
    have hal : acc.length + ((L.drop (a + 1)).filter (crossM x)).length ≤ (CX L).length := by
      rw [← hacc, eC, List.length_append, List.length_append, List.length_map]
      omega
    have hdl : (L.drop (a + 1)).length ≤ 100 := by rw [List.length_drop]; omega
    refine s_one (s_extend (P := fun ys => ys = ((L.drop (a + 1)).filter (crossM x)).map fun y => dPr (x.s, y.s)) 4 rfl (o_filt 7 (as := L.drop (a + 1)) (enc := dChd) (crossM x) (fun y => dPr (x.s, y.s)) (i_listD (e_var 6)) (by omega) (fun y hy s H C cl fp => ?_) fun y hy hpy s H C cl fp => ?_) (fun ys hy => ?_) fun d hd => ?_)
    · exact t_val (e_callF D2 (x, y) hr1 (a_cons (e_ixL (e_var 3) (e_var 5) (atI_map hx)) (a_cons (e_var 7) a_nil)) trivial)
    · exact e_tup (a_cons (e_ixT (ds := [dS x.s, .int (x.a : Int), .int (x.b : Int)]) (e_ixL (ds := L.map dChd) (e_var 3) (e_var 5) (atI_map hx)) e_int rfl) (a_cons (e_ixT (e_var 7) e_int rfl) a_nil))
    · subst hy
      rw [List.length_map, List.length_map]
      omega
    · subst hd
      refine ⟨acc ++ ((L.drop (a + 1)).filter (crossM x)).map (fun y => (x.s, y.s)), by rw [List.append_assoc, ← eC, hacc], ?_⟩
      rw [List.map_append, List.map_map]
      exact ⟨_, _, _, rfl⟩
  · rintro Γ' ⟨acc, hacc, o1, o2, o3, rfl⟩
    rw [List.length_range, List.drop_length] at hacc
    have e : acc = CX L := by rw [← hacc]; exact (List.append_nil _).symm
    subst e
    exact s_one (s_retM 4 rfl rfl)
abbrev sCount : Stmt := topS 45
abbrev nCount : List Str := ["_law_found", "_law_i", "_law_j", "_law_one", "_law_other"]
theorem scCount : FnScope nCount ["_law_found", "_law_i", "_law_j"] (defScope sCount) := ⟨rfl, rfl, rfl, by decide +kernel, rfl, by decide +kernel, by decide +kernel⟩
abbrev spCount (K : PySem.W.Frag) : Sp := spF K (fun i : List (Sd × Sd) × Nat × Nat => [.list (i.1.map dPr), .int (i.2.1 : Int), .int (i.2.2 : Int)]) (fun i => i.1.length ≤ 100000) (fun i => .int (countM i.1 i.2.1 i.2.2 : Nat))
theorem eqv_two (a b i j : Nat) : PyData.eqv (.list [.int (min (a : Int) (b : Int)), .int (max (a : Int) (b : Int))]) (.list [.int (min (i : Int) (j : Int)), .int (max (i : Int) (j : Int))]) = decide (a = i ∧ b = j ∨ a = j ∧ b = i) := by
  rw [PyData.eqv, PyData.eqvAll, PyData.eqvAll, PyData.eqvAll, PyData.eqv, PyData.eqv, Bool.and_true, Bool.eq_iff_iff]
  simp only [Bool.and_eq_true, beq_iff_eq, decide_eq_true_eq]
  omega
theorem shape_two (i j : Int) : SeqAt.shaped (.list [.int i, .int j]) = true := by
  unfold SeqAt.shaped
  simp only [PyData.canLay0, PyData.canLayAll0, PyData.depth, PyData.depthAll]
  rfl
theorem ok_count (T : Bl mg) (F : Dt K mg "_law_count" sCount ["_law_found", "_law_i", "_law_j"]) : Df P w K mg base 1 "_law_count" ["_law_found", "_law_i", "_law_j"] (spCount K) := by
  refine df_mk F scCount (fun _ => rfl) fun f cdv A outer s H E hr i hc => ?_
  have nd := scCount.nd
  obtain ⟨L, i, j⟩ := i
  dsimp only at hc ⊢
  refine s_one (s_ret (P := fun z => z = .int (countM L i j : Nat)) ?_ fun d hd => by rw [hd])
  refine e_lenLM (as := L.filter (pairIs i j)) (enc := fun p => dS p.1) T.len (ed_ofO (o_filt2 3 4 (as := L) (fun p => dS p.1) (fun p => dS p.2) (pairIs i j) (fun p => dS p.1) (i_listD (e_var 0)) (by omega) (fun x hx s H C cl fp => ?_) fun x hx hp s H C cl fp => ?_)) ?_
  · exact t_cmp (cm_b (c_eqD hr.units (ed_ofO (o_sortL2 T.sorted (ed_ofO (o_lst (a_cons (e_ixT (e_var 3) e_int rfl) (a_cons (e_ixT (e_var 4) e_int rfl) a_nil)))))) (ed_ofO (o_sortL2 T.sorted (ed_ofO (o_lst (a_cons (e_var 1) (a_cons (e_var 2) a_nil)))))) (shape_two _ _) (shape_two _ _)) (eqv_two _ _ _ _))
  · exact e_var 3
  · exact Nat.le_trans (List.length_filter_le ..) (by omega)
end
end Ly


set_option Elab.async false
set_option linter.all false
set_option maxRecDepth 100000
set_option maxHeartbeats 2000000
namespace Ly
open PySem PySem.Spec PyProof.Rows L2 Evl Rw
/-! every order -/
def insE (x : Sd) (row : List Sd) : List (List Sd) := (List.range (row.length + 1)).map fun k => row.take k ++ [x] ++ row.drop k
theorem EO_snoc (xs : List Sd) (x : Sd) : everyOrder (xs ++ [x]) = (everyOrder xs).flatMap (insE x) := by
  unfold everyOrder
  rw [List.foldl_append]
  rfl
theorem fm_len {α β : Type} {f : α → List β} {c : Nat} : ∀ {l : List α}, (∀ a ∈ l, (f a).length = c) → (l.flatMap f).length = l.length * c
  | [], _ => by rw [List.flatMap_nil, List.length_nil, List.length_nil, Nat.zero_mul]
  | a :: l, h => by
    rw [List.flatMap_cons, List.length_append, h a List.mem_cons_self, fm_len fun b hb => h b (List.mem_cons_of_mem _ hb), List.length_cons, Nat.add_mul]
    omega
theorem fm_take {α β : Type} (f : α → List β) (l : List α) (j : Nat) : ((l.take j).flatMap f).length ≤ (l.flatMap f).length := by
  conv => rhs; rw [← List.take_append_drop j l]
  rw [List.flatMap_append, List.length_append]
  omega
theorem snoc_ind {α : Type} {P : List α → Prop} (h0 : P []) (h1 : ∀ xs x, P xs → P (xs ++ [x])) : ∀ xs, P xs := fun xs => by
  have : ∀ n (xs : List α), xs.length = n → P xs := by
    intro n
    induction n with
    | zero => intro xs h; rw [List.length_eq_zero_iff.mp h]; exact h0
    | succ n ih =>
      intro xs h
      have hne : xs ≠ [] := fun e => by rw [e] at h; cases h
      rw [← List.dropLast_concat_getLast hne]
      exact h1 _ _ (ih _ (by rw [List.length_dropLast]; omega))
  exact this xs.length xs rfl
theorem EO_rows : ∀ xs : List Sd, ∀ r ∈ everyOrder xs, r.length = xs.length := by
  refine snoc_ind ?_ fun xs x ih => ?_
  · intro r hr
    have : r = [] := by simpa [everyOrder] using hr
    rw [this]
  · intro r hr
    rw [EO_snoc] at hr
    obtain ⟨row, h1, h2⟩ := List.mem_flatMap.mp hr
    obtain ⟨k, hk, rfl⟩ := List.mem_map.mp h2
    have := ih row h1
    have := List.mem_range.mp hk
    rw [List.length_append, List.length_append, List.length_append, List.length_take, List.length_drop, List.length_singleton]
    omega
theorem EO_len : ∀ xs : List Sd, (everyOrder xs).length = fact xs.length := by
  refine snoc_ind rfl fun xs x ih => ?_
  rw [EO_snoc, fm_len (c := xs.length + 1) (fun r hr => by unfold insE; rw [List.length_map, List.length_range, EO_rows xs r hr]), ih, List.length_append, List.length_singleton]
  rfl
theorem fact_pos : ∀ n, 1 ≤ fact n
  | 0 => Nat.le_refl 1
  | n + 1 => Nat.le_trans (fact_pos n) (Nat.le_mul_of_pos_right _ (by omega))
theorem fact_mono {k n : Nat} (h : k ≤ n) : fact k ≤ fact n := by
  induction h with
  | refl => exact Nat.le_refl _
  | step h ih => exact Nat.le_trans ih (Nat.le_mul_of_pos_right _ (by omega))
theorem le_fact : ∀ n, n ≤ fact n
  | 0 => Nat.zero_le _
  | n + 1 => by
    have := fact_pos n
    show n + 1 ≤ fact n * (n + 1)
    exact Nat.le_mul_of_pos_left _ this
def dLr (r : List Sd) : PyData := .list (r.map dS)
section
variable {P : Program} {w : World} {K : PySem.W.Frag} {mg : Str → Option Value} {base : Heap}
abbrev sEO : Stmt := topS 46
abbrev nEO : List Str := ["_law_things", "_law_found", "_law_thing", "_law_longer", "_law_row", "_law_k"]
theorem scEO : FnScope nEO ["_law_things"] (defScope sEO) := ⟨rfl, rfl, rfl, by decide +kernel, rfl, by decide +kernel, by decide +kernel⟩
abbrev spEO (K : PySem.W.Frag) : Sp := spO K (fun xs : List Sd => [.list (xs.map dS)]) (fun xs => fact xs.length ≤ 900) (fun xs => (everyOrder xs).map dLr)
theorem ok_eo (T : Bl mg) (F : Dt K mg "_law_every_order" sEO ["_law_things"]) : Df P w K mg base 1 "_law_every_order" ["_law_things"] (spEO K) := by
  refine df_mk F scEO (fun _ => rfl) fun f cdv A outer s H E hr xs hc => ?_
  have nd := scEO.nd
  have hxl : xs.length ≤ 900 := Nat.le_trans (le_fact _) hc
  refine s_cons (s_asgO 1 (o_lst (a_cons (ed_ofO (o_lst a_nil)) a_nil)) fun d hd => ?_)
  subst hd
  refine s_cons (s_forM xs dS (i_listD (e_var 0)) (tg_name 2) (fun k Γ' => ∃ o1 o2 o3 o4, Γ' = [.dat (.list (xs.map dS)), .own ((everyOrder (xs.take k)).map dLr), o1, o2, o3, o4]) ⟨_, _, _, _, rfl⟩ ?_ ?_)
  · rintro k x hkx hx Γ' ⟨o1, o2, o3, o4, rfl⟩
    refine ⟨_, rfl, ?_⟩
    have hkl : k < xs.length := (List.getElem?_eq_some_iff.mp hkx).1
    have hstep : everyOrder (xs.take (k + 1)) = (everyOrder (xs.take k)).flatMap (insE x) := by rw [take_step hkx, EO_snoc]
    have hlen : ((everyOrder (xs.take k)).flatMap (insE x)).length ≤ 900 := by
      rw [← hstep, EO_len, List.length_take]
      exact Nat.le_trans (fact_mono (by omega)) hc
    have hrow : ∀ r ∈ everyOrder (xs.take k), r.length ≤ 900 := fun r hr => by
      rw [EO_rows _ r hr, List.length_take]; omega
    have hrl : (everyOrder (xs.take k)).length ≤ 900 := by
      rw [EO_len, List.length_take]
      exact Nat.le_trans (fact_mono (by omega)) hc
    generalize everyOrder (xs.take k) = L at *
    refine s_freeze 1 rfl (s_cons (s_asgO 3 (o_lst a_nil) fun d hd => ?_))
    subst hd
    refine s_cons (s_forM L dLr (i_listD (e_var 1)) (tg_name 4) (fun j Γ' => ∃ o1 o2, Γ' = [.dat (.list (xs.map dS)), .dat (.list (L.map dLr)), .dat (dS x), .own (((L.take j).flatMap (insE x)).map dLr), o1, o2]) ⟨_, _, rfl⟩ ?_ ?_)
    · rintro j r hjr hr Γ' ⟨o1, o2, rfl⟩
      refine ⟨_, rfl, ?_⟩
      have hrr := hrow r hr
      have hst : (L.take (j + 1)).flatMap (insE x) = (L.take j).flatMap (insE x) ++ insE x r := by rw [take_step hjr, List.flatMap_append, List.flatMap_singleton]
      have hb := fm_take (insE x) L (j + 1)
      rw [hst, List.length_append] at hb
      refine s_one (s_extend (P := fun ys => ys = (List.range (r.length + 1)).map fun k => dLr (r.take k ++ [x] ++ r.drop k)) 3 rfl (o_map 5 (as := List.range (r.length + 1)) (enc := nI) (fun k => dLr (r.take k ++ [x] ++ r.drop k)) (i_rngN T.range (e_eq (e_add (e_lenLM T.len (e_var 4) (by omega)) e_int) (congrArg PyData.int (by omega))) (by omega)) (by rw [List.length_range]; omega) fun k hk s H C cl fp => ?_) (fun ys hy => ?_) fun d hd => ?_)
      · refine e_eq (ed_ofO (o_cat (o_cat (o_toM (as := r) (enc := dS) (e_var 4) (e_var 5)) (o_lst (a_cons (e_var 2) a_nil)) ?_) (o_fromM (as := r) (enc := dS) (e_var 4) (e_var 5)) ?_)) ?_
        · rw [List.length_map, List.length_take, List.length_singleton]; omega
        · rw [List.length_append, List.length_map, List.length_map, List.length_take, List.length_drop, List.length_singleton]; omega
        · unfold dLr
          rw [List.map_append, List.map_append]
          rfl
      · subst hy
        have : (insE x r).length = r.length + 1 := by unfold insE; rw [List.length_map, List.length_range]
        rw [List.length_map, List.length_map, List.length_range]
        omega
      · subst hd
        show ∃ o1 o2, _ = [_, _, _, Sl.own (((L.take (j + 1)).flatMap (insE x)).map dLr), o1, o2]
        rw [hst, List.map_append]
        unfold insE
        rw [List.map_map]
        exact ⟨_, _, rfl⟩
    · rintro Γ' ⟨o1, o2, rfl⟩
      rw [List.take_length, ← hstep]
      exact s_one (s_move 1 3 rfl (by decide) ⟨_, _, _, _, rfl⟩)
  · rintro Γ' ⟨o1, o2, o3, o4, rfl⟩
    rw [List.take_length]
    exact s_one (s_retM 1 rfl rfl)
/-! every drawing -/
def ED (W : Ws) (n : Nat) : List Dw := (List.range n).foldl (fun found n => found.flatMap fun rows => (everyOrder (throughN W n)).map fun o => rows ++ [o]) [[]]
def extE (W : Ws) (n : Nat) (rows : Dw) : List Dw := (everyOrder (throughN W n)).map fun o => rows ++ [o]
theorem ED_succ (W : Ws) (n : Nat) : ED W (n + 1) = (ED W n).flatMap (extE W n) := by
  unfold ED
  rw [List.range_succ, List.foldl_append]
  rfl
theorem ED_len (W : Ws) (n : Nat) : (ED W (n + 1)).length = (ED W n).length * fact (throughN W n).length := by
  rw [ED_succ, fm_len (c := fact (throughN W n).length) fun r hr => by unfold extE; rw [List.length_map, EO_len]]
theorem ED_pos (W : Ws) : ∀ n, 1 ≤ (ED W n).length
  | 0 => Nat.le_refl 1
  | n + 1 => by
    rw [ED_len]
    exact Nat.mul_pos (ED_pos W n) (fact_pos _)
theorem ED_mono (W : Ws) {k n : Nat} (h : k ≤ n) : (ED W k).length ≤ (ED W n).length := by
  induction h with
  | refl => exact Nat.le_refl _
  | step h ih =>
    rw [ED_len]
    exact Nat.le_trans ih (Nat.le_mul_of_pos_right _ (fact_pos _))
theorem ED_fact (W : Ws) (n : Nat) : fact (throughN W n).length ≤ (ED W (n + 1)).length := by
  rw [ED_len]
  exact Nat.le_mul_of_pos_left _ (ED_pos W n)
theorem ED_rows (W : Ws) : ∀ n, ∀ D ∈ ED W n, D.length = n
  | 0, D, h => by
    have : D = [] := by simpa [ED] using h
    rw [this]; rfl
  | n + 1, D, h => by
    rw [ED_succ] at h
    obtain ⟨r, h1, h2⟩ := List.mem_flatMap.mp h
    obtain ⟨o, _, rfl⟩ := List.mem_map.mp h2
    rw [List.length_append, ED_rows W n r h1, List.length_singleton]
abbrev sED : Stmt := topS 47
abbrev nED : List Str := ["_law_surface", "_law_ways", "_law_found", "_law_number", "_law_some", "_law_longer", "_law_rows", "_law_order", "_law_one"]
theorem scED : FnScope nED ["_law_surface", "_law_ways"] (defScope sED) := ⟨rfl, rfl, rfl, by decide +kernel, rfl, by decide +kernel, by decide +kernel⟩
abbrev spED (K : PySem.W.Frag) : Sp := spO K (fun i : List Nat × Ws => [dW i.1, dWs i.2]) (fun i => Wk i.2 ∧ i.1.length ≤ 12 ∧ (ED i.2 (i.1.length / 2)).length ≤ 900) (fun i => (ED i.2 (i.1.length / 2)).map dD)
theorem ok_ed (T : Bl mg) (F : Dt K mg "_law_every_drawing" sED ["_law_surface", "_law_ways"]) (D1 : Df P w K mg base 1 "_law_all_strands" ["_law_ways"] (spStrandsOf K)) (D2 : Df P w K mg base 1 "_law_every_order" ["_law_things"] (spEO K)) :
    Df P w K mg base 2 "_law_every_drawing" ["_law_surface", "_law_ways"] (spED K) := by
  refine df_mk F scED (fun _ => rfl) fun f cdv A outer s H E hr i hc => ?_
  have nd := scED.nd
  obtain ⟨S, W⟩ := i
  dsimp only at hc ⊢
  obtain ⟨hk, hS, hB⟩ := hc
  refine s_cons (s_asgO 2 (o_lst (a_cons (e_tup a_nil) a_nil)) fun d hd => ?_)
  subst hd
  refine s_cons (s_forM (List.range (S.length / 2)) nI (i_rngN T.range (e_halfN (e_lenW T.len (e_var 0) (by omega))) (by omega)) (tg_name 3) (fun k Γ' => ∃ o1 o2 o3 o4 o5 o6, Γ' = [.dat (dW S), .dat (dWs W), .own ((ED W k).map dD), o1, o2, o3, o4, o5, o6]) ⟨_, _, _, _, _, _, rfl⟩ ?_ ?_)
  · rintro k a hka ha Γ' ⟨o1, o2, o3, o4, o5, o6, rfl⟩
    obtain ⟨rfl, hlt⟩ := range_at hka
    refine ⟨_, rfl, ?_⟩
    have hB1 : (ED W (a + 1)).length ≤ 900 := Nat.le_trans (ED_mono W (by omega)) hB
    have hBF : fact (throughN W a).length ≤ 900 := Nat.le_trans (ED_fact W a) hB1
    have hfew := strands_few hk
    refine s_cons (s_asgFilt 4 8 (as := strandsOf W) (enc := dS) (fun s => decide (low (lat W s 0) = 97 + a)) dS (i_own (o_callF D1 W hr (a_cons (e_var 1) a_nil) hk)) (by omega) (fun x hx s H C cl fp => ?_) (fun x hx hp s H C cl fp => ?_) ?_)
    · have hs := strands_is hx
      have hl := hk.len _ (wy_mem hs.1)
      exact t_cmp (c_eqL (e_lowL (e_ixW (e_ixT (e_var 1) (e_ixT (e_var 8) e_int rfl) (atI_ws hs.1)) (e_ixT (e_var 8) e_int rfl) (by omega) (wy_ix hs)) (lat_lt hk hs 0)) (e_ixS e_str (e_var 3) (by decide) (small_at (by omega))))
    · exact e_var 8
    show Ly.S _ _ [_, _, _, _, Sl.own ((throughN W a).map dS), _, _, _, _] _ _
    refine s_freeze 4 rfl (s_freeze 2 rfl (s_cons (s_asgO 5 (o_lst a_nil) fun d hd => ?_)))
    subst hd
    have hst := ED_succ W a
    have hrw : ∀ r ∈ ED W a, r.length ≤ 12 := fun r hr => by rw [ED_rows W a r hr]; omega
    rw [hst] at hB1
    generalize ED W a = L at *
    refine s_cons (s_forM L dD (i_listD (e_var 2)) (tg_name 6) (fun j Γ' => ∃ o1 o2 o3, Γ' = [.dat (dW S), .dat (dWs W), .dat (.list (L.map dD)), .dat (nI a), .dat (.list ((throughN W a).map dS)), .own (((L.take j).flatMap (extE W a)).map dD), o1, o2, o3]) ⟨_, _, _, rfl⟩ ?_ ?_)
    · rintro j r hjr hr' Γ' ⟨o1, o2, o3, rfl⟩
      refine ⟨_, rfl, ?_⟩
      have hrr := hrw r hr'
      have hs2 : (L.take (j + 1)).flatMap (extE W a) = (L.take j).flatMap (extE W a) ++ extE W a r := by rw [take_step hjr, List.flatMap_append, List.flatMap_singleton]
      have hb := fm_take (extE W a) L (j + 1)
      rw [hs2, List.length_append] at hb
      have hel : (extE W a r).length = (everyOrder (throughN W a)).length := by unfold extE; rw [List.length_map]
      refine s_one (s_extend (P := fun ys => ys = (everyOrder (throughN W a)).map fun o => dD (r ++ [o])) 5 rfl (o_map 7 (as := everyOrder (throughN W a)) (enc := dLr) (fun o => dD (r ++ [o])) (i_own (o_callF D2 (throughN W a) hr (a_cons (e_var 4) a_nil) hBF)) (by omega) fun o ho s H C cl fp => ?_) (fun ys hy => ?_) fun d hd => ?_)
      · refine e_eq (e_catT (xs := r.map dRow) (ys := [dRow o]) (e_var 6) (e_tup (a_cons (e_tuple T.tuple (e_var 7)) a_nil)) ?_) ?_
        · rw [List.length_map, List.length_singleton]
          exact Nat.le_trans (show r.length + 1 ≤ 13 by omega) (by decide)
        · unfold dD
          rw [List.map_append]
          rfl
      · subst hy
        rw [List.length_map, List.length_map]
        omega
      · subst hd
        show ∃ o1 o2 o3, _ = [_, _, _, _, _, Sl.own (((L.take (j + 1)).flatMap (extE W a)).map dD), o1, o2, o3]
        rw [hs2, List.map_append]
        unfold extE
        rw [List.map_map]
        exact ⟨_, _, _, rfl⟩
    · rintro Γ' ⟨o1, o2, o3, rfl⟩
      rw [List.take_length]
      refine s_one (s_move 2 5 rfl (by decide) ?_)
      show ∃ o1 o2 o3 o4 o5 o6, _ = [_, _, Sl.own ((ED W (a + 1)).map dD), o1, o2, o3, o4, o5, o6]
      rw [hst]
      exact ⟨_, _, _, _, _, _, rfl⟩
  · rintro Γ' ⟨o1, o2, o3, o4, o5, o6, rfl⟩
    rw [List.length_range]
    exact s_one (s_retM 2 rfl rfl)
end
end Ly


set_option Elab.async false
set_option linter.all false
set_option maxRecDepth 100000
set_option maxHeartbeats 2000000
namespace Ly
open PySem PySem.Spec PyProof.Rows L2 Evl Rw
def IP (p : Int → Prop) : PyData → Prop := fun d => ∃ n : Int, p n ∧ d = .int n
section
variable {X : Cx} {tp : TPar} {Γ : List Sl} {e a b : Expr} {pos : Pos} {p q : Int → Prop}
theorem v2_mono {r : R2} {dx dy : PyData} {R R' : PyData → Prop} (h : V2 tp r dx dy R) (k : ∀ d, R d → R' d) : V2 tp r dx dy R' := fun x y G H hs hx hy Q z => h x y G H hs hx hy Q fun v d G2 H2 hr => z v d G2 H2 (k d hr)
theorem e_i {i : Int} (h : Ed X tp Γ e (.int i)) : E X tp Γ e (IP fun k => k = i) := e_mono h fun d hd => ⟨i, rfl, hd⟩
theorem ip_mono {p' : Int → Prop} (h : E X tp Γ e (IP p)) (k : ∀ i, p i → p' i) : E X tp Γ e (IP p') := e_mono h fun d ⟨i, hi, e⟩ => ⟨i, k i hi, e⟩
theorem e_addI (ha : E X tp Γ a (IP p)) (hb : E X tp Γ b (IP q)) : E X tp Γ (.BinOp a .Add b pos) (IP fun k => ∃ i j, p i ∧ q j ∧ k = i + j) :=
  e_op op_add ha hb fun dx dy ⟨i, hi, ei⟩ ⟨j, hj, ej⟩ => by subst ei ej; exact v2_mono v2_I0 fun d hd => ⟨_, ⟨i, j, hi, hj, rfl⟩, hd⟩
theorem e_mulI (ha : E X tp Γ a (IP p)) (hb : E X tp Γ b (IP q)) (hc : ∀ i j, p i → q j → CMul i j) : E X tp Γ (.BinOp a .Mult b pos) (IP fun k => ∃ i j, p i ∧ q j ∧ k = i * j) :=
  e_op op_mul ha hb fun dx dy ⟨i, hi, ei⟩ ⟨j, hj, ej⟩ => by subst ei ej; exact v2_mono (v2_I (hc i j hi hj)) fun d hd => ⟨_, ⟨i, j, hi, hj, rfl⟩, hd⟩
theorem e_modI (ha : E X tp Γ a (IP p)) (hb : E X tp Γ b (IP q)) (hc : ∀ j, q j → 0 < j) : E X tp Γ (.BinOp a .Mod b pos) (IP fun k => ∃ i j, p i ∧ q j ∧ k = i % j) :=
  e_op op_mod ha hb fun dx dy ⟨i, hi, ei⟩ ⟨j, hj, ej⟩ => by subst ei ej; exact v2_mono (v2_I (hc j hj)) fun d hd => ⟨_, ⟨i, j, hi, hj, rfl⟩, hd⟩
theorem e_fdivI (ha : E X tp Γ a (IP p)) (hb : E X tp Γ b (IP q)) (hc : ∀ j, q j → 0 < j ∧ j < 1073741824) : E X tp Γ (.BinOp a .FloorDiv b pos) (IP fun k => ∃ i j, p i ∧ q j ∧ k = i / j) :=
  e_op op_fdiv ha hb fun dx dy ⟨i, hi, ei⟩ ⟨j, hj, ej⟩ => by subst ei ej; exact v2_mono (v2_I (C := CDiv) (hc j hj)) fun d hd => ⟨_, ⟨i, j, hi, hj, rfl⟩, hd⟩
theorem c_eqI (ha : E X tp Γ a (IP p)) (hb : E X tp Γ b (IP q)) : Cm X tp Γ .Eq a b (fun _ => True) :=
  c_op op_eq (nomark _) ha hb fun dx dy ⟨i, hi, ei⟩ ⟨j, hj, ej⟩ => by
    subst ei ej
    exact fun x y G H hs hx hy Q q => v2b_eq (k := decide (i = j)) rfl x y G H hs hx hy Q fun k G2 H2 _ => q k G2 H2 trivial
end
section
variable {P : Program} {w : World} {K : PySem.W.Frag} {mg : Str → Option Value} {base : Heap}
abbrev sDraw : Stmt := topS 33
abbrev nDraw : List Str := ["_law_tape_here", "_law_many", "_law_spot", "_law_cell", "_law_mixed", "_law_found"]
theorem scDraw : FnScope nDraw ["_law_tape_here", "_law_many"] (defScope sDraw) := ⟨rfl, rfl, rfl, by decide +kernel, rfl, by decide +kernel, by decide +kernel⟩
abbrev spDraw (K : PySem.W.Frag) : Sp := spT K (fun m : Nat => [.int (m : Int)]) (fun m => 1 ≤ m ∧ m ≤ 1000000) (fun m r => ∃ k : Nat, k < m ∧ r = .dat (.int (k : Int)))
theorem ok_draw (T : Bl mg) (F : Dt K mg "_law_draw" sDraw ["_law_tape_here", "_law_many"]) : Df P w K mg base 1 "_law_draw" ["_law_tape_here", "_law_many"] (spDraw K) := by
  refine df_mkT F scDraw (fun _ => rfl) fun f cdv A outer s H E hr m t hc => ?_
  have nd := scDraw.nd
  obtain ⟨h1, h2⟩ := hc
  have hm : ∀ i : Int, ∃ k : Nat, k < m ∧ i % (m : Int) = (k : Int) := fun i => by
    have a1 := Int.emod_nonneg i (b := (m : Int)) (by omega)
    have a2 := Int.emod_lt_of_pos i (b := (m : Int)) (by omega)
    exact ⟨(i % (m : Int)).toNat, by omega, by omega⟩
  have tail : ∀ o2 o3 o4 o5, S (Bx P w K mg base nDraw "_law_draw" sDraw f cdv A outer s H E) (some t) [.tape, .dat (.int (m : Int)), o2, o3, o4, o5] ((defBody sDraw).drop 2) { nx := fun _ => False, rt := fun r => ∃ k : Nat, k < m ∧ r = .dat (.int (k : Int)) } := by
    intro o2 o3 o4 o5
    refine s_cons (s_asg 5 (e_modI (e_tape 0 (.inr (.inl rfl)) rfl) (e_i (e_var 1)) fun j hj => by omega) fun d hd => ?_)
    obtain ⟨n, ⟨i, j, hi, rfl, rfl⟩, rfl⟩ := hd
    obtain ⟨k, hk, ek⟩ := hm i
    refine s_cons (s_tput 0 (.inr (.inl rfl)) rfl (ip_mono (e_fdivI (e_tape 0 (.inr (.inl rfl)) rfl) (e_i (e_var 1)) fun j hj => by omega) ?_) ?_)
    · rintro n ⟨i, j, hi, rfl, rfl⟩
      exact Int.ediv_nonneg hi (by omega)
    exact s_one (s_ret (P := fun z => z = .int (i % (m : Int))) (e_var 5) fun d hd => ⟨k, hk, by rw [hd, ek]⟩)
  refine s_cons (s_tput 0 (.inr (.inr rfl)) rfl (ip_mono (e_addI (e_tape 0 (.inr (.inr rfl)) rfl) (e_i e_int)) ?_) ?_)
  · rintro k ⟨i, j, hi, rfl, rfl⟩
    omega
  refine s_cons (s_if (P := fun _ => True) (t_cmp (c_eqI (e_tape 0 (.inr (.inl rfl)) rfl) (e_i e_int))) (fun _ => ?_) fun _ => s_nil ?_)
  · refine s_cons (s_asg 2 (e_tape 0 (.inl rfl) rfl) fun d hd => ?_)
    obtain ⟨sp, hsp, rfl⟩ := hd
    refine s_cons (s_tput 0 (.inl rfl) rfl (e_mono (e_add (e_var 2) e_int) fun d hd => ⟨_, ?_, hd⟩) ?_)
    · omega
    refine s_cons (s_asg 3 (P := fun z => z = .int 7) e_int fun d hd => ?_)
    subst hd
    have rest : ∀ cl : Int, ∀ o4 o5, S (Bx P w K mg base nDraw "_law_draw" sDraw f cdv A outer s H E) (some t) [.tape, .dat (.int (m : Int)), .dat (.int sp), .dat (.int cl), o4, o5]
        [((defBody sDraw).getD 1 (.Pass ⟨0, 0, 0, 0⟩) |> fun st => match st with | .If _ b _ _ => b.getD 4 (.Pass ⟨0, 0, 0, 0⟩) | s => s), ((defBody sDraw).getD 1 (.Pass ⟨0, 0, 0, 0⟩) |> fun st => match st with | .If _ b _ _ => b.getD 5 (.Pass ⟨0, 0, 0, 0⟩) | s => s)]
        { nx := fun Γ' => S (Bx P w K mg base nDraw "_law_draw" sDraw f cdv A outer s H E) (some t) Γ' ((defBody sDraw).drop 2) { nx := fun _ => False, rt := fun r => ∃ k : Nat, k < m ∧ r = .dat (.int (k : Int)) }, rt := fun r => ∃ k : Nat, k < m ∧ r = .dat (.int (k : Int)) } := by
      intro cl o4 o5
      refine s_cons (s_if (P := fun b => b = false → (10 : Int) ^ 18 ≤ cl) (t_w (w_or (P := fun b => b = decide (cl < (10 : Int) ^ 18)) (t_cmp (c_lt (e_var 3) (e_pow e_int e_int ?_))) (fun _ => fun z => nomatch z) fun h => w_or1 (t_cmp (c_op op_ge (nomark _) (e_var 2) (e_tlen 0 T.len rfl) fun dx dy hx hy => ?_)))) (fun _ => ?_) fun h => s_nil ?_)
      · exact (by unfold CPow; decide)
      · obtain ⟨t', e1, rfl⟩ := hy
        subst hx
        exact fun x y G H hs hx hy Q q => v2b_I0 (g := fun i j => decide (j ≤ i)) x y G H hs hx hy Q fun k G2 H2 hk => q k G2 H2 fun _ => Int.not_lt.mp (of_decide_eq_false h.symm)
      · refine s_cons (s_asg 4 (P := IP fun _ => True) (ip_mono (e_modI (e_mulI (e_addI (e_modI (e_i (e_var 3)) (e_i e_int) ?_) (e_mulI (e_i e_int) (e_tape 0 (.inr (.inr rfl)) rfl) ?_)) (e_i e_int) ?_) (e_i e_int) ?_) fun _ _ => trivial) fun d hd => ?_)
        · rintro j rfl; decide
        · rintro i j rfl _; exact .inl ⟨by decide, by decide⟩
        · rintro i j _ rfl; exact .inr ⟨by decide, by decide⟩
        · rintro j rfl; decide
        obtain ⟨mx, _, rfl⟩ := hd
        refine s_cons (s_asg 4 (P := IP fun _ => True) (ip_mono (e_modI (e_mulI (e_addI (e_fdivI (e_i (e_var 4)) (e_i e_int) ?_) (e_mulI (e_i e_int) (e_tape 0 (.inr (.inr rfl)) rfl) ?_)) (e_i e_int) ?_) (e_i e_int) ?_) fun _ _ => trivial) fun d hd => ?_)
        · rintro j rfl; decide
        · rintro i j rfl _; exact .inl ⟨by decide, by decide⟩
        · rintro i j _ rfl; exact .inr ⟨by decide, by decide⟩
        · rintro j rfl; decide
        obtain ⟨mx2, _, rfl⟩ := hd
        obtain ⟨k, hk, ek⟩ := hm (mx2 / 11)
        exact s_one (s_ret (P := fun z => z = .int ((mx2 / 11) % (m : Int))) (e_mod (e_fdiv (e_var 4) e_int (by decide)) (e_var 1) (by omega)) fun d hd => ⟨k, hk, by rw [hd, ek]⟩)
      · have h' := h rfl
        have big : (0 : Int) ≤ (10 : Int) ^ 18 := by decide
        exact s_one (s_tput 0 (.inr (.inl rfl)) rfl (e_mono (e_var 3) fun d hd => ⟨cl, Int.le_trans big h', hd⟩) (tail _ _ _ _))
    refine s_cons (s_if (P := fun b => b = decide (0 < t.2.2.length)) ?_ (fun h => s_one (s_asg 3 (P := IP fun _ => True) ?_ fun d hd => ?_)) fun h => s_nil ?_)
    · refine t_cmp (c_op op_gt (nomark _) (e_tlen 0 T.len rfl) e_int fun dx dy hx hy => ?_)
      obtain ⟨t', e1, rfl⟩ := hx
      cases e1
      subst hy
      exact fun x y G H hs hx hy Q q => v2b_I0 (g := fun i j => decide (j < i)) x y G H hs hx hy Q fun k G2 H2 hk => q k G2 H2 (hk.trans (decide_eq_decide.mpr (by omega)))
    · have h' := of_decide_eq_true h.symm
      refine e_mono (e_tcell 0 rfl (e_mono (e_modI (e_i (e_var 2)) (q := fun k => k = (t.2.2.length : Int)) (e_mono (e_tlen 0 T.len rfl) fun d ⟨t', e1, e2⟩ => ⟨_, rfl, ?_⟩) ?_) ?_)) fun d ⟨i, hi⟩ => ⟨i, trivial, hi⟩
      · cases e1; exact e2
      · rintro j rfl; omega
      · rintro d ⟨n, ⟨i, j, rfl, rfl, rfl⟩, rfl⟩
        exact ⟨t, rfl, _, rfl, Int.emod_nonneg _ (by omega), Int.emod_lt_of_pos _ (by omega)⟩
    · obtain ⟨cl, _, rfl⟩ := hd
      exact rest cl _ _
    · exact rest 7 _ _
  · exact tail _ _ _ _
end
end Ly


set_option Elab.async false
set_option linter.all false
set_option maxRecDepth 100000
set_option maxHeartbeats 2000000
namespace Ly
open PySem PySem.Spec PyProof.Rows L2 Evl Rw
theorem joinL_flat : ∀ ws : List (List Nat), TL.joinL [] ws = ws.flatten
  | [] => rfl
  | [c] => by rw [List.flatten_cons, List.flatten_nil, List.append_nil]; rfl
  | c :: d :: r => by
    rw [List.flatten_cons, ← joinL_flat (d :: r)]
    rfl
theorem join_flat (ws : List (List Nat)) : Txt.join ("" : Str) (ws.map Tx) = Tx ws.flatten := by
  have := SX.join_S [] ws
  rw [joinL_flat] at this
  exact this
theorem lower_W {l : List Nat} (h : ∀ c ∈ l, Lt c) : Txt.lower (Tx l) = Tx (l.map low) := by
  have := SX.lower_S (a := l) (List.all_eq_true.mpr fun c hc => decide_eq_true (by have := h c hc; unfold Lt at this; omega))
  rw [show l.map low = l.map PyProof.Rows.lo1 from List.map_congr_left fun c hc => by
    have := h c hc
    unfold low PyProof.Rows.lo1
    unfold Lt at this
    split <;> split <;> omega]
  exact this
theorem mul_fold : ∀ (n : Nat) (w acc : List Nat), (List.replicate n w.toArray).foldl (· ++ ·) acc.toArray = (acc ++ mulW w n).toArray
  | 0, w, acc => by
    show acc.toArray = _
    unfold mulW
    rw [List.replicate_zero, List.flatten_nil, List.append_nil]
  | n + 1, w, acc => by
    rw [List.replicate_succ, List.foldl_cons, List.append_toArray, mul_fold n w (acc ++ w)]
    unfold mulW
    rw [List.replicate_succ, List.flatten_cons, List.append_assoc]
theorem mul_W (w : List Nat) (n : Nat) : Txt.mul (Tx w) (n : Int) = Tx (mulW w n) := by
  unfold Txt.mul
  by_cases h0 : n = 0
  · subst h0
    rw [if_pos (by decide)]
    rfl
  · rw [if_neg (by omega)]
    split
    · rename_i h
      rw [Bool.or_eq_true, beq_iff_eq, beq_iff_eq, tx_len] at h
      rcases h with h | h
      · have : n = 1 := by omega
        subst this
        unfold mulW
        rw [show List.replicate 1 w = [w] from rfl, List.flatten_cons, List.flatten_nil, List.append_nil]
      · have : w = [] := List.length_eq_zero_iff.mp h
        subst this
        unfold mulW
        rw [show (List.replicate n ([] : List Nat)).flatten = [] by induction n with
          | zero => rfl
          | succ n ih => rw [List.replicate_succ, List.flatten_cons, List.nil_append]; by_cases z : n = 0; (subst z; rfl); exact ih z]
    · have := mul_fold n w []
      rw [List.nil_append] at this
      rw [Int.toNat_natCast]
      exact congrArg Str.mk this
theorem mulW_len (w : List Nat) (n : Nat) : (mulW w n).length = n * w.length := by
  unfold mulW
  rw [List.length_flatten, List.map_replicate, List.sum_replicate_nat]
section
variable {P : Program} {w : World} {K : PySem.W.Frag} {mg : Str → Option Value} {base : Heap}
abbrev sHow : Stmt := topS 48
abbrev nHow : List Str := ["_law_surface", "_law_ways", "_law_found", "_law_sign", "_law_k", "_law_one"]
theorem scHow : FnScope nHow ["_law_surface", "_law_ways"] (defScope sHow) := ⟨rfl, rfl, rfl, by decide +kernel, rfl, by decide +kernel, by decide +kernel⟩
def cntW (W : Ws) (n : Nat) : Nat := (W.flatten.filter fun c => decide (low c = 97 + n)).length
def HM (W : Ws) (n : Nat) : Nat := (List.range n).foldl (fun f n => f * fact (cntW W n)) 1
theorem HM_succ (W : Ws) (n : Nat) : HM W (n + 1) = HM W n * fact (cntW W n) := by
  unfold HM
  rw [List.range_succ, List.foldl_append]
  rfl
abbrev spHow (K : PySem.W.Frag) : Sp := spF K (fun i : List Nat × Ws => [dW i.1, dWs i.2]) (fun i => Wk i.2 ∧ i.1.length ≤ 12) (fun i => .int (howMany i.1 i.2 : Nat))
theorem abc_at {m k a : Nat} (h : (([97, 98, 99, 100, 101, 102] : List Nat).take m)[k]? = some a) : a = 97 + k := by
  rw [List.getElem?_take] at h
  split at h
  · match k, h with
    | 0, h => simpa using h.symm
    | 1, h => simpa using h.symm
    | 2, h => simpa using h.symm
    | 3, h => simpa using h.symm
    | 4, h => simpa using h.symm
    | 5, h => simpa using h.symm
    | k + 6, h => simp at h
  · cases h
theorem flat_len {W : Ws} (k : Wk W) : W.flatten.length ≤ 10000 := by
  have h : ∀ V : Ws, (∀ w ∈ V, w.length ≤ 100) → V.flatten.length ≤ 100 * V.length := by
    intro V
    induction V with
    | nil => intro _; exact Nat.le_refl 0
    | cons v V ih =>
      intro hv
      rw [List.flatten_cons, List.length_append, List.length_cons]
      have := ih fun w hw => hv w (List.mem_cons_of_mem _ hw)
      have := hv v List.mem_cons_self
      omega
  have := h W k.len
  have := k.few
  omega
theorem ok_how (T : Bl mg) (F : Dt K mg "_law_how_many" sHow ["_law_surface", "_law_ways"]) : Df P w K mg base 1 "_law_how_many" ["_law_surface", "_law_ways"] (spHow K) := by
  refine df_mk F scHow (fun _ => rfl) fun f cdv A outer s H E hr i hc => ?_
  have nd := scHow.nd
  obtain ⟨S, W⟩ := i
  dsimp only at hc ⊢
  obtain ⟨hk, hS⟩ := hc
  have hfl := flat_len hk
  have hlt : ∀ c ∈ W.flatten, Lt c := fun c hc => by
    obtain ⟨w, hw, hcw⟩ := List.mem_flatten.mp hc
    exact hk.lt w hw c hcw
  refine s_cons (s_asg 2 (P := fun z => z = .int ((HM W 0 : Nat) : Int)) e_int fun d hd => ?_)
  subst hd
  refine s_cons (s_forM (([97, 98, 99, 100, 101, 102] : List Nat).take (S.length / 2)) dL (i_strW (e_toW (e_eq e_str (congrArg PyData.str abc)) (e_halfN (e_lenW T.len (e_var 0) (by omega))) (by decide))) (tg_name 3) (fun k Γ' => ∃ o1 o2 o3, Γ' = [.dat (dW S), .dat (dWs W), .dat (.int ((HM W k : Nat) : Int)), o1, o2, o3]) ⟨_, _, _, rfl⟩ ?_ ?_)
  · rintro k a hka ha Γ' ⟨o1, o2, o3, rfl⟩
    have ea := abc_at hka
    subst ea
    refine ⟨_, rfl, ?_⟩
    have hcl : cntW W k ≤ 10000 := Nat.le_trans (List.length_filter_le ..) hfl
    refine s_one (s_forM (List.range (cntW W k)) nI (i_rngN T.range (e_eq (e_lenLM (as := (W.flatten.map low).filter fun c => decide (c = 97 + k)) (enc := dL) T.len (ed_ofO (o_filt 5 (as := W.flatten.map low) (enc := dL) (fun c => decide (c = 97 + k)) dL (i_strW (e_eq (e_lower (e_eq (e_join (P := fun d => d = .tuple (W.map dW)) (ss := W.map Tx) e_str (e_var 1) (fun d hd => .inr (by rw [hd, List.map_map]; rfl)) ?_) (congrArg PyData.str (join_flat W))) ?_) (congrArg PyData.str (lower_W hlt)))) ?_ (fun c hc s H C cl fp => ?_) fun c hc hp s H C cl fp => ?_)) ?_) ?_) (by omega)) (tg_name 4) (fun j Γ' => ∃ o2 o3, Γ' = [.dat (dW S), .dat (dWs W), .dat (.int ((HM W k * fact j : Nat) : Int)), .dat (dL (97 + k)), o2, o3]) ⟨_, _, by rw [show fact 0 = 1 from rfl, Nat.mul_one]; rfl⟩ ?_ ?_)
    · rw [List.map_map]
      have e : (W.map ((fun x => x.length) ∘ Tx)).sum = W.flatten.length := by
        rw [List.length_flatten]
        exact congrArg List.sum (List.map_congr_left fun w _ => tx_len w)
      rw [e]
      show W.flatten.length + _ * 0 ≤ 16777216
      omega
    · rw [tx_len]; omega
    · rw [List.length_map]; omega
    · exact t_cmp (c_eqL (e_var 5) (e_var 3))
    · exact e_var 5
    · exact Nat.le_trans (List.length_filter_le ..) (by rw [List.length_map]; omega)
    · rw [List.filter_map, List.length_map]
      rfl
    · rintro j b hjb hb Γ' ⟨o2, o3, rfl⟩
      obtain ⟨rfl, hlb⟩ := range_at hjb
      refine ⟨_, rfl, ?_⟩
      refine s_one (s_asg 2 (P := fun z => z = .int ((HM W k * fact (b + 1) : Nat) : Int)) (e_eq (e_mul (e_var 2) (e_add (e_var 4) e_int) (.inr ⟨?_, ?_⟩)) (congrArg PyData.int ?_)) fun d hd => ?_)
      · exact Int.lt_trans (by decide) (show (0 : Int) < (b : Int) + 1 by omega)
      · exact Int.lt_trans (show (b : Int) + 1 < 20000 by omega) (by decide)
      · show ((HM W k * fact b : Nat) : Int) * ((b : Int) + 1) = ((HM W k * (fact b * (b + 1)) : Nat) : Int)
        rw [← Nat.mul_assoc, Int.natCast_mul (HM W k * fact b), Int.natCast_add]
        rfl
      · subst hd
        exact ⟨_, _, rfl⟩
    · rintro Γ' ⟨o2, o3, rfl⟩
      rw [List.length_range]
      show ∃ o1 o2 o3, _ = [_, _, Sl.dat (.int ((HM W (k + 1) : Nat) : Int)), o1, o2, o3]
      rw [HM_succ]
      exact ⟨_, _, _, rfl⟩
  · rintro Γ' ⟨o1, o2, o3, rfl⟩
    have el : (([97, 98, 99, 100, 101, 102] : List Nat).take (S.length / 2)).length = S.length / 2 := by
      rw [List.length_take]
      show min (S.length / 2) 6 = S.length / 2
      omega
    rw [el]
    exact s_one (s_ret (P := fun z => z = .int ((HM W (S.length / 2) : Nat) : Int)) (e_var 2) fun d hd => by rw [hd]; rfl)
end
end Ly


set_option Elab.async false
set_option linter.all false
set_option maxRecDepth 100000
set_option maxHeartbeats 2000000
namespace Ly
open PySem PySem.Spec PyProof.Rows L2 Evl Rw
theorem fr_nil : Fr [] := fun i a b h => by simp at h
theorem fr_take {l : List Nat} (h : Fr l) (n : Nat) : Fr (l.take n) := fun i a b e1 e2 => by
  rw [List.getElem?_take] at e1 e2
  split at e1
  · split at e2
    · exact h i a b e1 e2
    · cases e2
  · cases e1
theorem fr_drop {l : List Nat} (h : Fr l) (n : Nat) : Fr (l.drop n) := fun i a b e1 e2 => by
  rw [List.getElem?_drop] at e1 e2
  exact h (n + i) a b e1 (by rw [Nat.add_assoc]; exact e2)
theorem last_at {l : List Nat} (h : l ≠ []) : l[l.length - 1]? = some (l.getLastD 0) := by
  have hl := List.length_pos_iff.mpr h
  rw [List.getLastD_eq_getLast?, List.getLast?_eq_getElem?, List.getElem?_eq_getElem (by omega)]
  rfl
theorem fr_snoc {l : List Nat} {c : Nat} (h : Fr l) (hc : l = [] ∨ c ≠ bk (l.getLastD 0)) : Fr (l ++ [c]) := fun i a b e1 e2 => by
  rcases Nat.lt_or_ge (i + 1) l.length with hi | hi
  · rw [List.getElem?_append_left (by omega)] at e1 e2
    exact h i a b e1 e2
  · have hi2 : i + 1 = l.length := by
      have := (List.getElem?_eq_some_iff.mp e2).1
      rw [List.length_append, List.length_singleton] at this
      omega
    have hne : l ≠ [] := fun z => by rw [z] at hi2; cases hi2
    have hl := last_at hne
    rw [List.getElem?_append_left (by omega), show i = l.length - 1 by omega, hl] at e1
    rw [List.getElem?_append_right (by omega), hi2, Nat.sub_self] at e2
    cases e1
    cases e2
    rcases hc with hc | hc
    · exact absurd hc hne
    · exact hc
theorem last_I {α : Type} {l : List α} {x : α} {enc : α → PyData} (h : l[l.length - 1]? = some x) : atI (l.map enc) (-1) = some (enc x) := by
  have hl : l.length - 1 < l.length := (List.getElem?_eq_some_iff.mp h).1
  have hne : l ≠ [] := fun z => by rw [z] at hl; exact Nat.not_lt_zero _ hl
  have e : l = l.dropLast ++ [x] := by
    conv => lhs; rw [← List.dropLast_concat_getLast hne]
    rw [List.getElem?_eq_getElem hl] at h
    rw [List.getLast_eq_getElem]
    rw [Option.some.inj h]
  rw [e, List.map_append]
  exact atI_last _ _
theorem cut_inner {l : List Nat} (h : 1 < l.length) : cutD (l.map dL) (some 1) (some (-1)) = ((l.drop 1).take (l.length - 2)).map dL := by
  unfold cutD HT.sIx
  rw [List.length_map]
  simp only
  rw [if_pos (by decide), if_neg (by decide), show (Int.toNat 1) = 1 from rfl, Nat.min_eq_left (by omega), show ((-1 : Int) + (l.length : Int)).toNat - 1 = l.length - 2 by omega, List.map_take, List.map_drop]
section
variable {P : Program} {w : World} {K : PySem.W.Frag} {mg : Str → Option Value} {base : Heap}
abbrev sInner : Stmt := topS 36
theorem scInner : FnScope ["_law_word", "_law_left", "_law_sign"] ["_law_word"] (defScope sInner) := ⟨rfl, rfl, rfl, by decide +kernel, rfl, by decide +kernel, by decide +kernel⟩
abbrev spInner (K : PySem.W.Frag) : Sp := spI K (fun x : List Nat => [dW x]) (fun x => (∀ c ∈ x, Lt c) ∧ x.length ≤ 1000) (fun x r => ∃ v, r = .dat (dW v) ∧ Rd' v ∧ (∀ c ∈ v, c ∈ x) ∧ v.length ≤ x.length)
theorem lbC {X : Cx} {tp : TPar} {Γ : List Sl} {a : Expr} {pos p2 : Pos} {x : Nat} (D : Df X.prog X.w X.K X.mg X.base 1 "_law_back" ["_law_word"] (spBack X.K)) (hr : Room 1 X.A) (h : Ed X tp Γ a (dL x)) (hx : Lt x)
    (hg : Gl X "_law_back" := by rfl) (he : starEach [a] X.env = (false, eval a X.env) :: starEach [] X.env := by rfl) (hpl : (backTo pos (starEach [] X.env)).any (·.1) = false := by rfl) :
    Ed X tp Γ (.Call (.Name "_law_back" p2) [a] [] pos) (dL (bk x)) :=
  e_callF D [x] hr (a_cons h a_nil he) ⟨fun c hc => by rw [List.mem_singleton.mp hc]; exact hx, by show 1 ≤ 1000; decide⟩ rfl hg (by decide) he hpl
theorem ok_inner (T : Bl mg) (F : Dt K mg "_law_inner" sInner ["_law_word"]) (D1 : Df P w K mg base 1 "_law_back" ["_law_word"] (spBack K)) : Df P w K mg base 2 "_law_inner" ["_law_word"] (spInner K) := by
  refine df_mk F scInner (fun _ => rfl) fun f cdv A outer s H E hr x hc => ?_
  have nd := scInner.nd
  obtain ⟨hx, hxl⟩ := hc
  refine s_cons (s_asgO 1 (o_lst a_nil) fun d hd => ?_)
  subst hd
  refine s_cons (s_forM x dL (i_strW (e_var 0)) (tg_name 2) (fun k Γ' => ∃ acc, Fr acc ∧ (∀ c ∈ acc, c ∈ x) ∧ acc.length ≤ k ∧ ∃ o, Γ' = [.dat (dW x), .own (acc.map dL), o]) ⟨[], fr_nil, (fun _ h => nomatch h), Nat.le_refl 0, _, rfl⟩ ?_ ?_)
  · rintro k c hkc hcx Γ' ⟨acc, hf, hm, hl, o, rfl⟩
    refine ⟨_, rfl, ?_⟩
    have hk : k < x.length := (List.getElem?_eq_some_iff.mp hkc).1
    refine s_one (s_if (P := fun b => b = (decide (0 < acc.length) && decide (acc.getLastD 0 = bk c))) ?_ (fun h => ?_) fun h => ?_)
    · refine t_tmp 1 rfl (t_w (wd_and (t_eq (t_cmp (c_gt (e_lenLM T.len (e_var 1) (by omega)) e_int)) (decide_eq_decide.mpr (by omega))) fun h => w_and1 (t_cmp (c_eqL (e_ixL (e_var 1) e_m1 (last_I (last_at ?_))) (lbC D1 hr (e_var 2) (hx c hcx))))))
      exact List.length_pos_iff.mp (of_decide_eq_true h)
    · obtain ⟨h1, h2⟩ := (Bool.and_eq_true _ _).mp h.symm
      have h1 := of_decide_eq_true h1
      have hne : acc.map dL ≠ [] := fun z => by
        have := congrArg List.length z
        rw [List.length_map] at this
        rw [this] at h1
        cases h1
      refine s_one (s_pop 1 rfl hne ⟨acc.dropLast, by rw [List.dropLast_eq_take]; exact fr_take hf _, fun c hc => hm c (by rw [List.dropLast_eq_take] at hc; exact List.mem_of_mem_take hc), by rw [List.length_dropLast]; omega, ?_⟩)
      rw [List.map_dropLast]
      exact ⟨_, rfl⟩
    · refine s_one (s_append (P := fun d => d = dL c) 1 rfl (e_var 2) (by rw [List.length_map]; omega) fun d hd => ⟨acc ++ [c], fr_snoc hf ?_, fun d hd => ?_, by rw [List.length_append, List.length_singleton]; omega, ?_⟩)
      · by_cases h0 : acc = []
        · exact .inl h0
        · right
          intro z
          rw [decide_eq_true (List.length_pos_iff.mpr h0), Bool.true_and] at h
          have h' := of_decide_eq_false h.symm
          have hll := hx _ (hm _ (List.mem_of_getElem? (last_at h0)))
          exact h' (by rw [z, bk_bk hll])
      · rcases List.mem_append.mp hd with h | h
        · exact hm d h
        · rw [List.mem_singleton.mp h]; exact hcx
      · subst hd
        rw [List.map_append]
        exact ⟨_, rfl⟩
  · rintro Γ' ⟨acc, hf, hm, hl, o, rfl⟩
    refine s_cons (s_while (fun m Γ' => ∃ acc, acc.length = m ∧ Fr acc ∧ (∀ c ∈ acc, c ∈ x) ∧ acc.length ≤ x.length ∧ Γ' = [.dat (dW x), .own (acc.map dL), o]) acc.length ⟨acc, rfl, hf, hm, hl, rfl⟩ ?_)
    rintro m Γ' ⟨acc, rfl, hf, hm, hl, rfl⟩
    refine ⟨fun b => b = (decide (1 < acc.length) && decide (acc.headD 0 = bk (acc.getLastD 0))), ?_, fun h => ?_, fun h => ?_⟩
    · refine t_tmp 1 rfl (t_w (wd_and (t_eq (t_cmp (c_gt (e_lenLM T.len (e_var 1) (by omega)) e_int)) (decide_eq_decide.mpr (by omega))) fun h => w_and1 (t_cmp (c_eqL (e_ixL (e_var 1) e_int (atI_map (i := 0) ?_)) (lbC D1 hr (e_ixL (e_var 1) e_m1 (last_I (last_at ?_))) ?_)))))
      · have h1 := of_decide_eq_true h
        cases acc with
        | nil => cases h1
        | cons c r => rfl
      · have h1 := of_decide_eq_true h
        exact List.length_pos_iff.mp (by omega)
      · have h1 := of_decide_eq_true h
        exact hx _ (hm _ (List.mem_of_getElem? (last_at (List.length_pos_iff.mp (by omega)))))
    · obtain ⟨h1, h2⟩ := (Bool.and_eq_true _ _).mp h.symm
      have h1 := of_decide_eq_true h1
      refine s_freeze 1 rfl (s_one (s_asgO 1 (o_slL (e_var 1) (po_yes e_int) (po_yes e_m1)) fun d hd => ?_))
      subst hd
      rw [cut_inner h1]
      refine ⟨((acc.drop 1).take (acc.length - 2)).length, ?_, _, rfl, fr_take (fr_drop hf 1) _, fun c hc => hm c (List.mem_of_mem_drop (List.mem_of_mem_take hc)), ?_, rfl⟩
      · rw [List.length_take, List.length_drop]; omega
      · rw [List.length_take, List.length_drop]; omega
    · refine s_freeze 1 rfl (s_one (s_ret (P := fun d => d = dW acc) (e_eq (e_join (P := fun d => d = .list (acc.map dL)) (ss := acc.map fun c => Tx [c]) e_str (e_var 1) (fun d hd => .inl (by rw [hd, List.map_map]; rfl)) ?_) (congrArg PyData.str (join_one acc))) fun d hd => ⟨acc, by rw [hd], ⟨hf, fun h1 z => ?_⟩, hm, hl⟩))
      · rw [ones_len, List.length_map]
        show acc.length + acc.length * 0 ≤ 16777216
        omega
      · rw [decide_eq_true h1, z, decide_eq_true rfl] at h
        cases h
abbrev sRooted : Stmt := topS 37
theorem scRooted : FnScope ["_law_word", "_law_size"] ["_law_word"] (defScope sRooted) := ⟨rfl, rfl, rfl, by decide +kernel, rfl, by decide +kernel, by decide +kernel⟩
abbrev spRooted (K : PySem.W.Frag) : Sp := spI K (fun x : List Nat => [dW x]) (fun x => x.length ≤ 1000) (fun x r => ∃ v, r = .dat (dW v) ∧ Root x v)
theorem mul_ok {x : List Nat} {n : Nat} (h1 : x.length ≤ 1000) (h2 : n ≤ 1000) : MulOk (Tx x) (n : Int) := by
  refine ⟨?_, fun h3 h4 => ?_, fun h3 h4 => ?_⟩
  · rw [decide_eq_false (by omega), decide_eq_false (by omega)]
    rfl
  · have hn : 1 ≤ n := by omega
    rw [tx_len]
    have h5 : ((1000 : Nat) : Int) ≤ (2 ^ 63 - 1) / (n : Int) := Int.le_ediv_of_mul_le (by omega) (Int.le_trans (Int.mul_le_mul_of_nonneg_left (show (n : Int) ≤ 1000 by omega) (by decide)) (by decide))
    omega
  · rw [tx_len, Int.toNat_natCast]
    have : x.length * n ≤ 1000 * 1000 := Nat.mul_le_mul h1 h2
    exact decide_eq_false (Nat.not_lt.mpr (Nat.le_trans this (by decide)))
theorem alikeW (a b : List Nat) : alike (dW a) (dW b) = some (decide (a = b)) := by
  show some (decide (Tx a = Tx b)) = _
  congr 1
  exact decide_eq_decide.mpr ⟨fun h => by have := congrArg (fun z : Str => z.cps.toList) h; exact this, fun h => by rw [h]⟩
theorem ok_rooted (T : Bl mg) (F : Dt K mg "_law_rooted" sRooted ["_law_word"]) : Df P w K mg base 1 "_law_rooted" ["_law_word"] (spRooted K) := by
  refine df_mk F scRooted (fun _ => rfl) fun f cdv A outer s H E hr x hxl => ?_
  have nd := scRooted.nd
  refine s_cons (s_forM (List.range (x.length - 1)) (fun (k : Nat) => .int (1 + (k : Int))) (i_mono (i_rng2 T.range e_int (e_lenW T.len (e_var 0) (by omega)) (by omega)) fun ds hd => ?_) (tg_name 1) (fun k Γ' => (∀ j, 1 ≤ j → j ≤ k → mulW (x.take j) (x.length / j) ≠ x) ∧ ∃ o, Γ' = [.dat (dW x), o]) ⟨fun j h1 h2 => by omega, _, rfl⟩ ?_ ?_)
  · rw [hd]
    unfold rangeD
    rw [show ((x.length : Int) - 1).toNat = x.length - 1 by omega]
  · rintro k a hka ha Γ' ⟨hj, o, rfl⟩
    obtain ⟨rfl, hlt⟩ := range_at hka
    refine ⟨_, rfl, ?_⟩
    have e1 : (1 + (a : Int)) = ((a + 1 : Nat) : Int) := by omega
    have hdiv : x.length / (a + 1) ≤ 1000 := Nat.le_trans (Nat.div_le_self ..) hxl
    refine s_one (s_if (P := fun b => b = decide (mulW (x.take (a + 1)) (x.length / (a + 1)) = x)) (t_cmp (c_eq (e_mono (e_mulS (P := fun d => d = .int ((x.length / (a + 1) : Nat) : Int)) (e_toW (n := a + 1) (e_var 0) (e_eq (e_var 1) (congrArg PyData.int e1)) (by omega)) (e_eq (e_fdiv (e_lenW T.len (e_var 0) (by omega)) (e_var 1) (by omega)) ?_) fun d hd => ⟨_, hd, mul_ok (by rw [List.length_take]; omega) hdiv⟩) fun d hd => ?_) (e_var 0) (alikeW _ _))) (fun h => ?_) fun h => s_nil ?_)
    · rw [e1]
      exact congrArg PyData.int (Int.natCast_ediv _ _).symm
    · obtain ⟨n, hn, rfl⟩ := hd
      injection hn with hn
      subst hn
      exact congrArg PyData.str (mul_W _ _)
    · have h' := of_decide_eq_true h.symm
      refine s_one (s_ret (P := fun d => d = dW (x.take (a + 1))) (e_toW (n := a + 1) (e_var 0) (e_eq (e_var 1) (congrArg PyData.int e1)) (by omega)) fun d hd => ⟨_, by rw [hd], .inr ⟨a + 1, by omega, by omega, rfl, h'⟩, fun k h1 h2 => hj k h1 ?_⟩)
      rw [List.length_take] at h2
      omega
    · refine ⟨fun j h1 h2 => ?_, _, rfl⟩
      by_cases e : j = a + 1
      · subst e; exact of_decide_eq_false h.symm
      · exact hj j h1 (by omega)
  · rintro Γ' ⟨hj, o, rfl⟩
    rw [List.length_range] at hj
    exact s_one (s_ret (P := fun d => d = dW x) (e_var 0) fun d hd => ⟨x, by rw [hd], .inl rfl, fun k h1 h2 => hj k h1 (by omega)⟩)
end
end Ly


set_option Elab.async false
set_option linter.all false
set_option maxRecDepth 100000
set_option maxHeartbeats 2000000
namespace Ly
open PySem PySem.Spec PyProof.Rows L2 Evl Rw
section
variable {X : Cx} {tp : TPar} {Γ : List Sl} {tg iter e a b : Expr} {es : List Expr} {pos p2 p3 apos : Pos} {p q : Int → Prop} {P R : PyData → Prop}
/-- _law_draw(tape, m) -/
theorem e_drawC {y : Str} (D : Df X.prog X.w X.K X.mg X.base 1 "_law_draw" ["_law_tape_here", "_law_many"] (spDraw X.K)) (j : Nat) {m : Nat} (hr : Room 1 X.A) (hj : Γ[j]? = some .tape) (ha : Ed X tp Γ a (.int (m : Int))) (h1 : 1 ≤ m) (h2 : m ≤ 1000000)
    (hN : X.N[j]? = some y := by rfl) (hv : Vis X.env.scope y := by first | exact Or.inl rfl | exact Or.inr (Or.inl rfl) | exact Or.inr (Or.inr rfl)) (hd : (y == ("__debug__" : Str)) = false := by decide) (hcd : (y == ("__classdict__" : Str)) = false := by decide)
    (hg : Gl X "_law_draw" := by rfl) (he : starEach [.Name y p3, a] X.env = (false, eval (.Name y p3) X.env) :: starEach [a] X.env := by rfl) (hpl : (backTo pos (starEach [a] X.env)).any (·.1) = false := by rfl) (he2 : starEach [a] X.env = (false, eval a X.env) :: starEach [] X.env := by rfl) :
    E X tp Γ (.Call (.Name "_law_draw" p2) [.Name y p3, a] [] pos) (IP fun k => 0 ≤ k ∧ k < (m : Int)) :=
  e_callT D j m hr hj (a_cons ha a_nil he2) ⟨h1, h2⟩ (fun r ⟨k, hk, e⟩ => ⟨_, e, k, ⟨by omega, by omega⟩, rfl⟩) hN hv hd hcd hg (by decide) he hpl
theorem i_rngI (hm : X.mg "range" = none) (h : E X tp Γ a (IP p)) (hp : ∀ i, p i → 0 ≤ i ∧ i < 1000000) (hg : Gl X "range" := by rfl) (hs : starEach [a] X.env = [(false, eval a X.env)] := by rfl) : I X tp Γ tg (.Call (.Name "range" p2) [a] [] pos) (fun ds => ∃ n : Nat, p n ∧ ds = (List.range n).map nI) := by
  refine i_mono (i_rng1 hm h (fun d ⟨i, hi, e⟩ => ⟨i, e, by have := hp i hi; omega, (hp i hi).2⟩) hg hs) fun ds hd => ?_
  obtain ⟨j, ⟨i, hi, ej⟩, rfl⟩ := hd
  cases ej
  have h0 := (hp _ hi).1
  refine ⟨j.toNat, by rw [Int.toNat_of_nonneg h0]; exact hi, ?_⟩
  unfold rangeD nI
  exact List.map_congr_left fun k _ => by rw [Int.zero_add]
theorem e_ixWN {w : List Nat} (ha : Ed X tp Γ a (dW w)) (hb : E X tp Γ b (IP fun k => 0 ≤ k ∧ k < (w.length : Int))) (hz : w.length ≤ 100000) (hs : PlainIx b := by exact fun _ _ => rfl) : E X tp Γ (.Subscript a b pos) (fun d => ∃ c, c ∈ w ∧ d = dL c) :=
  e_ix ix_str ha hb (fun dx dy e ⟨i, hi, ei⟩ => by
    subst e ei
    have hl : i.toNat < w.length := by omega
    exact v2_mono (v2_ixS (c := w[i.toNat]) (by rw [tx_len]; exact hz) (by
      have ei : i = (i.toNat : Int) := by omega
      refine Eq.trans (congrArg (atI w) ei) (atI_nat (List.getElem?_eq_getElem hl)))) fun d hd => ⟨_, List.getElem_mem hl, hd⟩) hs
theorem e_ixLN {α : Type} {as : List α} {enc : α → PyData} (ha : Ed X tp Γ a (.list (as.map enc))) (hb : E X tp Γ b (IP fun k => 0 ≤ k ∧ k < (as.length : Int))) (hs : PlainIx b := by exact fun _ _ => rfl) : E X tp Γ (.Subscript a b pos) (fun d => ∃ x, x ∈ as ∧ d = enc x) :=
  e_ix ix_list ha hb (fun dx dy e ⟨i, hi, ei⟩ => by
    subst e ei
    have hl : i.toNat < as.length := by omega
    exact v2_mono (v2_ixL (d := enc as[i.toNat]) (by
      have ei : i = (i.toNat : Int) := by omega
      refine Eq.trans (congrArg (atI (as.map enc)) ei) (atI_map (List.getElem?_eq_getElem hl)))) fun d hd => ⟨_, List.getElem_mem hl, hd⟩) hs
/-- ''.join of a list of signs -/
theorem e_joinN {Q : List Nat → Prop} {z : Nat} {p4 : Pos} (ha : E X tp Γ a (fun d => ∃ ws : List Nat, Q ws ∧ d = .list (ws.map dL))) (hQ : ∀ ws, Q ws → ws.length ≤ 100000)
    (hs : starEach [a] X.env = [(false, eval a X.env)] := by rfl) (hbase : attributeBase (.Constant (.str "") z p4) "join" X.env (eval (.Constant (.str "") z p4) X.env) = eval (.Constant (.str "") z p4) X.env := by rfl) (hline : (apos.endLine == pos.line) = true := by rfl) :
    E X tp Γ (.Call (.Attribute (.Constant (.str "") z p4) "join" apos) [a] [] pos) (fun d => ∃ ws, Q ws ∧ d = dW ws) := by
  refine e_of (pe_join pe_w pe_w hs hbase hline) fun B σ G H hv R q => (e_str (tp := tp) (Γ := Γ)) B σ G H hv _ fun v d G2 H2 hd hx a2 => ?_
  subst hd
  cases hx
  refine ⟨⟨_, rfl⟩, ha B σ G2 H2 (hv.adv' a2) _ fun v d G3 H3 hd hx a3 => ?_⟩
  obtain ⟨ws, hw, rfl⟩ := hd
  cases hx with
  | lst s1 d1 =>
    have e1 : ws.map dL = (ws.map fun c => Tx [c]).map PyData.str := by rw [List.map_map]; rfl
    rw [e1] at d1
    rw [d1.strs] at s1
    have hl := hQ ws hw
    refine ⟨_, _, ws.map fun c => Tx [c], rfl, rfl, .inl (SqL.of (a3.sub _ _ s1)), ?_, ?_⟩
    · rw [ones_len, List.length_map]
      show ws.length + ws.length * 0 ≤ 16777216
      omega
    · rw [join_one]
      exact q _ _ G3 H3 ⟨ws, hw, rfl⟩ (.str _) (a2.trans a3)
/-- a call of one argument that is not known -/
theorem e_callN {ι : Type} {args : ι → List PyData} {pre : ι → Prop} {res : ι → Rv → Prop} {k : Nat} {x : Str} {ps : List Str} (D : Df X.prog X.w X.K X.mg X.base k x ps (spI X.K args pre res)) (hr : Room k X.A) (ha : E X tp Γ a P)
    (h : ∀ d, P d → ∃ i, args i = [d] ∧ pre i ∧ ∀ r, res i r → ∃ d, r = .dat d ∧ R d) (hg : Gl X x := by rfl) (hdb : (x == ("__debug__" : Str)) = false := by decide) (he : starEach [a] X.env = (false, eval a X.env) :: starEach [] X.env := by rfl) (hpl : (backTo pos (starEach [] X.env)).any (·.1) = false := by rfl) :
    E X tp Γ (.Call (.Name x p2) [a] [] pos) R := by
  obtain ⟨f, fd, F, hm, hk, hb⟩ := D.ex
  exact e_of (pe_call F hr hg hm hk hb .nil pass0 (pa_cons pe_w pa_nil he) hdb he hpl) fun B σ G H hv Q q => ha B σ G H hv _ fun v d G2 H2 hd hx a => by
    obtain ⟨i, e1, hp, hq⟩ := h d hd
    refine ⟨i, G2, a.sub, by rw [e1]; exact .cons hx .nil, hp, fun r v G3 H3 hr ok a3 => ?_⟩
    obtain ⟨d, rfl, hR⟩ := hq r hr
    exact q v d G3 H3 hR ok (a.trans a3.any)
theorem e_catWN {Q : List Nat → Prop} {y : List Nat} (ha : E X tp Γ a (fun d => ∃ x, Q x ∧ d = dW x)) (hb : Ed X tp Γ b (dW y)) (h : ∀ x, Q x → x.length + y.length ≤ 100000) : E X tp Γ (.BinOp a .Add b pos) (fun d => ∃ x, Q x ∧ d = dW (x ++ y)) :=
  e_op op_add_str ha hb fun dx dy ⟨x, hx, ex⟩ ey v w G H hs hvx hvy Q q => by
    subst ex ey
    cases hvx; cases hvy
    exact ⟨Tx x, Tx y, rfl, rfl, by rw [tx_len, tx_len]; exact Nat.le_trans (h x hx) (by decide), q _ _ G H ⟨x, hx, congrArg PyData.str (tx_cat x y)⟩ (.str _) (Adv.refl hs)⟩
end
section
variable {P : Program} {w : World} {K : PySem.W.Frag} {mg : Str → Option Value} {base : Heap}
abbrev sAnyRow : Stmt := topS 35
abbrev nAnyRow : List Str := ["_law_tape_here", "_law_most", "_law_row", "_law_k", "_law_sign"]
theorem scAnyRow : FnScope nAnyRow ["_law_tape_here", "_law_most"] (defScope sAnyRow) := ⟨rfl, rfl, rfl, by decide +kernel, rfl, by decide +kernel, by decide +kernel⟩
abbrev spAnyRow (K : PySem.W.Frag) : Sp := spT K (fun m : Nat => [.int (m : Int)]) (fun m => 1 ≤ m ∧ m ≤ 6) (fun m r => ∃ S n, r = .dat (dW S) ∧ SurfOk S n)
structure RowOk (acc : List Nat) (k j : Nat) : Prop where
  nd : acc.Nodup
  len : acc.length = 2 * k + j
  mem : ∀ c, c ∈ acc ↔ (97 ≤ c ∧ c < 97 + k) ∨ (65 ≤ c ∧ c < 65 + k) ∨ (1 ≤ j ∧ c = 97 + k) ∨ (2 ≤ j ∧ c = 65 + k)
theorem ins_perm (acc : List Nat) (n c : Nat) : (acc.take n ++ [c] ++ acc.drop n).Perm (c :: acc) := by
  rw [List.append_assoc]
  have := List.perm_middle (a := c) (l₁ := acc.take n) (l₂ := acc.drop n)
  rw [List.take_append_drop] at this
  exact this
theorem row_step {acc : List Nat} {k j n c : Nat} (h : RowOk acc k j) (hk : k < 6) (hj : j = 0 ∧ c = 97 + k ∨ j = 1 ∧ c = 65 + k) : RowOk (acc.take n ++ [c] ++ acc.drop n) k (j + 1) := by
  have hp := ins_perm acc n c
  refine ⟨hp.nodup_iff.mpr (List.nodup_cons.mpr ⟨fun z => ?_, h.nd⟩), by rw [hp.length_eq, List.length_cons, h.len]; omega, fun d => ?_⟩
  · have := (h.mem c).mp z
    omega
  · rw [hp.mem_iff, List.mem_cons, h.mem d]
    omega
theorem ABC_at {n : Nat} (h : n < 6) : atI ("ABCDEF" : Str).cps.toList (n : Int) = some (65 + n) := by
  have : n = 0 ∨ n = 1 ∨ n = 2 ∨ n = 3 ∨ n = 4 ∨ n = 5 := by omega
  rcases this with rfl | rfl | rfl | rfl | rfl | rfl <;> decide +kernel
theorem ok_any_row (T : Bl mg) (F : Dt K mg "_law_any_row" sAnyRow ["_law_tape_here", "_law_most"]) (D1 : Df P w K mg base 1 "_law_draw" ["_law_tape_here", "_law_many"] (spDraw K)) : Df P w K mg base 2 "_law_any_row" ["_law_tape_here", "_law_most"] (spAnyRow K) := by
  refine df_mkT F scAnyRow (fun _ => rfl) fun f cdv A outer s H E hr m t hc => ?_
  have nd := scAnyRow.nd
  obtain ⟨h1, h6⟩ := hc
  refine s_cons (s_asgO 2 (o_lst a_nil) fun d hd => ?_)
  subst hd
  refine s_cons (s_for (f := fN 3) (P := fun ds => ∃ n : Nat, (1 ≤ n ∧ n ≤ 6) ∧ ds = (List.range n).map nI) (i_mono (i_rngI (p := fun i => 1 ≤ i ∧ i ≤ 6) T.range (ip_mono (e_addI (e_i e_int) (e_drawC D1 0 hr rfl (e_var 1) h1 (by omega))) ?_) fun i hi => by omega) fun ds ⟨n, hn, e⟩ => ⟨n, by omega, e⟩) (tg_name 3)
    (fun ds k Γ' => ∃ acc, RowOk acc k 0 ∧ ∃ o1 o2, Γ' = [.tape, .dat (.int (m : Int)), .own (acc.map dL), o1, o2]) (fun ds hP => ⟨[], ⟨List.nodup_nil, rfl, fun c => by simp⟩, _, _, rfl⟩) ?_ ?_)
  · rintro k ⟨i, j, rfl, hj, rfl⟩
    omega
  · rintro ds ⟨n, hn, rfl⟩ k d Γ' hd ⟨acc, ha, o1, o2, rfl⟩
    obtain ⟨a, hka, ham, rfl⟩ := map_at hd
    obtain ⟨rfl, hlt⟩ := range_at hka
    refine ⟨_, rfl, ?_⟩
    have hk6 : a < 6 := by omega
    refine s_one (s_forM [97 + a, 65 + a] dL (i_tupD (e_tup (a_cons (e_ixS e_str (e_var 3) (by decide) (small_at hk6)) (a_cons (e_ixS e_str (e_var 3) (by decide) (ABC_at hk6)) a_nil)))) (tg_name 4)
      (fun j Γ' => ∃ acc, RowOk acc a j ∧ ∃ o2, Γ' = [.tape, .dat (.int (m : Int)), .own (acc.map dL), .dat (nI a), o2]) ⟨acc, ha, _, rfl⟩ ?_ ?_)
    · rintro j c hjc hc Γ' ⟨acc, ha, o2, rfl⟩
      refine ⟨_, rfl, ?_⟩
      have hj : j = 0 ∧ c = 97 + a ∨ j = 1 ∧ c = 65 + a := by
        match j, hjc with
        | 0, h => left; exact ⟨rfl, by simpa using h.symm⟩
        | 1, h => right; exact ⟨rfl, by simpa using h.symm⟩
        | j + 2, h => simp at h
      have hal := ha.len
      refine s_one (s_insert (P := IP fun k => 0 ≤ k ∧ k < ((acc.length + 1 : Nat) : Int)) (P' := fun d => d = dL c) 2 rfl (e_drawC D1 0 hr rfl (e_tmp 2 rfl (e_eq (e_add (e_lenLM (as := acc) (enc := dL) T.len (e_var 2) (by omega)) e_int) (congrArg PyData.int (Int.natCast_add _ _).symm)) fun d hd => by rw [hd]; rfl) (by omega) (by omega)) (e_var 4) (by rw [List.length_map]; omega) (fun d ⟨i, hi, e⟩ => ⟨i.toNat, by rw [e, Int.toNat_of_nonneg hi.1], by omega⟩) fun n d hn hd => ⟨acc.take n ++ [c] ++ acc.drop n, row_step ha hk6 hj, ?_⟩)
      subst hd
      rw [List.map_append, List.map_append, List.map_take, List.map_drop]
      exact ⟨_, rfl⟩
    · rintro Γ' ⟨acc, ha, o2, rfl⟩
      refine ⟨acc, ⟨ha.nd, by have := ha.len; show acc.length = 2 * (a + 1) + 0; rw [this]; show 2 * a + 2 = _; omega, fun c => (ha.mem c).trans ?_⟩, _, _, rfl⟩
      show _ ∨ _ ∨ (1 ≤ 2 ∧ _) ∨ (2 ≤ 2 ∧ _) ↔ _
      omega
  · rintro ds ⟨n, hn, rfl⟩ Γ' ⟨acc, ha, o1, o2, rfl⟩
    rw [List.length_map, List.length_range] at ha
    refine s_freeze 2 rfl (s_one (s_ret (P := fun d => d = dW acc) (e_eq (e_join (P := fun d => d = .list (acc.map dL)) (ss := acc.map fun c => Tx [c]) e_str (e_var 2) (fun d hd => .inl (by rw [hd, List.map_map]; rfl)) ?_) (congrArg PyData.str (join_one acc))) fun d hd => ⟨acc, n, by rw [hd], hn.1, hn.2, by rw [ha.len]; rfl, ha.nd, fun c => (ha.mem c).trans (by omega)⟩))
    rw [ones_len, List.length_map]
    show acc.length + acc.length * 0 ≤ 16777216
    have := ha.len
    omega
end
end Ly


set_option Elab.async false
set_option linter.all false
set_option maxRecDepth 100000
set_option maxHeartbeats 2000000
namespace Ly
open PySem PySem.Spec PyProof.Rows L2 Evl Rw
section
variable {P : Program} {w : World} {K : PySem.W.Frag} {mg : Str → Option Value} {base : Heap}
def SG (m : Nat) : List Nat := ([97, 98, 99, 100, 101, 102] : List Nat).take m ++ ([65, 66, 67, 68, 69, 70] : List Nat).take m
theorem SG_mem {m c : Nat} (hm : m ≤ 6) (h : c ∈ SG m) : (97 ≤ c ∧ c < 97 + m) ∨ (65 ≤ c ∧ c < 65 + m) := by
  have : m = 0 ∨ m = 1 ∨ m = 2 ∨ m = 3 ∨ m = 4 ∨ m = 5 ∨ m = 6 := by omega
  rcases this with rfl | rfl | rfl | rfl | rfl | rfl | rfl <;> simp [SG] at h <;> omega
theorem SG_len {m : Nat} (hm : m ≤ 6) : (SG m).length = 2 * m := by
  unfold SG
  rw [List.length_append, List.length_take, List.length_take]
  show min m 6 + min m 6 = 2 * m
  omega
theorem SG_lt {m c : Nat} (hm : m ≤ 6) (h : c ∈ SG m) : Lt c := by
  have := SG_mem hm h
  unfold Lt
  omega
abbrev sAnyWay : Stmt := topS 38
abbrev nAnyWay : List Str := ["_law_tape_here", "_law_many", "_law_long", "_law_signs", "_law_word", "_law_at", "_law_k"]
theorem scAnyWay : FnScope nAnyWay ["_law_tape_here", "_law_many", "_law_long"] (defScope sAnyWay) := ⟨rfl, rfl, rfl, by decide +kernel, rfl, by decide +kernel, by decide +kernel⟩
abbrev spAnyWay (K : PySem.W.Frag) : Sp := spT K (fun i : Nat × Nat => [.int (i.1 : Int), .int (i.2 : Int)]) (fun i => 1 ≤ i.1 ∧ i.1 ≤ 6 ∧ 1 ≤ i.2 ∧ i.2 ≤ 6) (fun i r => ∃ v, r = .dat (dW v) ∧ WayOk i.1 v)
def WsQ (m n : Nat) (ws : List Nat) : Prop := (∀ c ∈ ws, c ∈ SG m) ∧ ws.length ≤ n
theorem one_way {m : Nat} (h1 : 1 ≤ m) : WayOk m [97] := by
  refine ⟨(fun z => nomatch z), by decide, fun c hc => ?_, fun t => ?_, fun k h0 h2 h3 => ?_⟩
  · rw [List.mem_singleton.mp hc]; omega
  · have e : ∀ t, atW [97] t = 97 := fun t => by
      have := atW_mem (w := [97]) (fun z => nomatch z) t
      exact List.mem_singleton.mp this
    rw [e, e]
    decide
  · rw [List.length_singleton] at h2; omega
theorem ok_any_way (T : Bl mg) (F : Dt K mg "_law_any_way" sAnyWay ["_law_tape_here", "_law_many", "_law_long"]) (D1 : Df P w K mg base 1 "_law_draw" ["_law_tape_here", "_law_many"] (spDraw K)) (D2 : Df P w K mg base 2 "_law_inner" ["_law_word"] (spInner K)) (D3 : Df P w K mg base 1 "_law_rooted" ["_law_word"] (spRooted K)) :
    Df P w K mg base 3 "_law_any_way" ["_law_tape_here", "_law_many", "_law_long"] (spAnyWay K) := by
  refine df_mkT F scAnyWay (fun _ => rfl) fun f cdv A outer s H E hr i t hc => ?_
  have nd := scAnyWay.nd
  obtain ⟨m, lg⟩ := i
  dsimp only at hc ⊢
  obtain ⟨h1, h6, hl1, hl6⟩ := hc
  have hr1 := hr.mono (show 1 ≤ 2 by decide)
  have hSG := SG_len h6
  refine s_cons (s_asg 3 (P := fun d => d = dW (SG m)) (e_catW (e_toW (e_eq e_str (congrArg PyData.str abc)) (e_var 1) (by decide)) (e_toW (e_eq e_str (congrArg PyData.str ABC)) (e_var 1) (by decide)) ?_) fun d hd => ?_)
  · have := SG_len h6
    unfold SG at this
    rw [List.length_append] at this
    omega
  subst hd
  refine s_cons (s_asg 4 (e_joinN (Q := WsQ m 6) (e_mono (e_ofO (o_lc (own := [("_law_k", 6)]) (Pl := fun ds => ∃ n : Nat, n ≤ lg ∧ ds = (List.range n).map nI) (J := fun ds k acc => acc.length = k ∧ ∃ ws : List Nat, acc = ws.map dL ∧ ∀ c ∈ ws, c ∈ SG m) (g := gName 6) ⟨?_, fun s H C cl fp => pg_name nd rfl (.inl rfl) (.inr rfl), Nat.zero_le 1, fun ds _ => ⟨rfl, [], rfl, fun _ h => nomatch h⟩, ?_⟩ (blkOk_by (by rfl)))) ?_) ?_) fun d hd => ?_)
  · refine i_mono (i_rngI (p := fun i => 1 ≤ i ∧ i ≤ (lg : Int)) T.range (ip_mono (e_addI (e_i e_int) (e_drawC D1 0 hr1 rfl (e_var 2) hl1 (by omega))) ?_) fun i hi => by omega) fun ds ⟨n, hn, e⟩ => ⟨n, by omega, e⟩
    rintro k ⟨i, j, rfl, hj, rfl⟩
    omega
  · rintro ds ⟨n, hn, rfl⟩ k d acc hd ⟨hal, ws, rfl, hws⟩
    have hkn : k < n := by
      have := (List.getElem?_eq_some_iff.mp hd).1
      rwa [List.length_map, List.length_range] at this
    refine ⟨by omega, (wipeG _ [6]).set 6 (.dat d), fun B σ G H v Q hv hx q => q _ (hv.setD hx) (wipe_set _ _ _ _ (by simp)), fun y => y = true, rfl, (fun z => nomatch z), fun _ s H C cl fp => ?_⟩
    refine e_mono (e_ixWN (w := SG m) (e_var 3) (e_mono (e_drawC D1 0 (m := 2 * m) hr1 rfl (e_eq (e_mul e_int (e_var 1) (.inl ⟨by decide, by decide⟩)) (congrArg PyData.int (by omega))) (by omega) (by omega)) fun d hd => by rw [hSG]; exact hd) (by omega)) fun d ⟨c, hc, e⟩ => ⟨by rw [List.length_append, hal]; rfl, ws ++ [c], by rw [e, List.map_append]; rfl, fun x hx => ?_⟩
    rcases List.mem_append.mp hx with hx | hx
    · exact hws x hx
    · rw [List.mem_singleton.mp hx]; exact hc
  · rintro d ⟨xs, ⟨ds, ⟨n, hn, rfl⟩, hal, ws, rfl, hws⟩, rfl⟩
    refine ⟨ws, ⟨hws, ?_⟩, rfl⟩
    rw [List.length_map, List.length_map, List.length_range] at hal
    omega
  · intro ws hw
    have := hw.2
    omega
  obtain ⟨ws, hws, rfl⟩ := hd
  have last : ∀ ws, WsQ m 1000 ws → ∀ o5 o6, S (Bx P w K mg base nAnyWay "_law_any_way" sAnyWay f cdv A outer s H E) (some t) [.tape, .dat (.int (m : Int)), .dat (.int (lg : Int)), .dat (dW (SG m)), .dat (dW ws), o5, o6] ((defBody sAnyWay).drop 3) { nx := fun _ => False, rt := fun r => ∃ v, r = .dat (dW v) ∧ WayOk m v } := by
    intro ws hws o5 o6
    have hwl := hws.2
    have hwL : ∀ c ∈ ws.take lg, Lt c := fun c hc => SG_lt h6 (hws.1 c (List.mem_of_mem_take hc))
    have hwl2 : (ws.take lg).length ≤ 6 := by rw [List.length_take]; omega
    refine s_one (s_ret (P := fun d => ∃ v, d = dW v ∧ WayOk m v) ?_ fun d ⟨v, e, hv⟩ => ⟨v, by rw [e], hv⟩)
    refine e_orS (z := Str.empty) (P := fun d => ∃ x v, Rd' x ∧ (∀ c ∈ x, c ∈ SG m) ∧ x.length ≤ 6 ∧ Root x v ∧ d = dW v) (e_callN (P := fun d => ∃ x, Rd' x ∧ (∀ c ∈ x, c ∈ SG m) ∧ x.length ≤ 6 ∧ d = dW x) D3 hr1 (e_call D2 (ws.take lg) hr (a_cons (e_toW (e_var 4) (e_var 2) (by omega)) a_nil) ⟨hwL, by omega⟩ ?_) ?_) ?_ ?_ ?_
    · rintro r ⟨v, rfl, hv, hm, hl⟩
      exact ⟨_, rfl, v, hv, fun c hc => hws.1 c (List.mem_of_mem_take (hm c hc)), by omega, rfl⟩
    · rintro d ⟨x, hx, hm, hl, rfl⟩
      refine ⟨x, rfl, by omega, ?_⟩
      rintro r ⟨v, rfl, hv⟩
      exact ⟨_, rfl, x, v, hx, hm, hl, hv, rfl⟩
    · rintro d ⟨x, v, hx, hm, hl, hv, rfl⟩
      refine ⟨Tx v, rfl, ?_⟩
      rw [tx_len]
      rcases hv.is with rfl | ⟨k, _, _, rfl, _⟩
      · omega
      · rw [List.length_take]; omega
    · rintro z ⟨x, v, hx, hm, hl, hv, e⟩ hz
      cases e
      rw [tx_len] at hz
      have hne : x ≠ [] := fun e => by
        subst e
        rcases hv.is with rfl | ⟨k, _, h, _⟩
        · exact hz rfl
        · exact absurd h (Nat.not_lt_zero _)
      exact ⟨v, rfl, root_way hv hne hx (fun c hc => SG_mem h6 (hm c hc)) h6 hl⟩
    · intro z _ _
      refine e_one (e_mono (e_ixW (w := SG m) (c := 97) (e_var 3) e_int (by omega) ?_) fun d hd => ⟨[97], hd, one_way h1⟩)
      have : m = 1 ∨ m = 2 ∨ m = 3 ∨ m = 4 ∨ m = 5 ∨ m = 6 := by omega
      rcases this with rfl | rfl | rfl | rfl | rfl | rfl <;> rfl
  refine s_cons (s_if (P := fun _ => True) (t_cmp (c_eqI (e_drawC D1 0 (m := 3) hr1 rfl e_int (by omega) (by omega)) (e_i e_int))) (fun _ => ?_) fun _ => s_nil (last ws ⟨hws.1, by have := hws.2; omega⟩ _ _))
  refine s_cons (s_asg 5 (P := IP fun k => 1 ≤ k ∧ k ≤ 3) (ip_mono (e_addI (e_i e_int) (e_drawC D1 0 (m := 3) hr1 rfl e_int (by omega) (by omega))) ?_) fun d hd => ?_)
  · rintro k ⟨i, j, rfl, hj, rfl⟩
    omega
  obtain ⟨a, ha, rfl⟩ := hd
  obtain ⟨a', rfl⟩ : ∃ a' : Nat, a = (a' : Int) := ⟨a.toNat, by omega⟩
  have hwl := hws.2
  refine s_one (s_asg 4 (P := fun d => ∃ v, WsQ m 1000 v ∧ d = dW v) (e_mono (e_catWN (Q := fun x => ∃ n : Nat, n ≤ 4 ∧ x = mulW (ws.take a') n) (y := ws.drop a') (e_mono (e_mulS (P := IP fun k => 2 ≤ k ∧ k ≤ 4) (e_toW (e_var 4) (e_var 5) (by omega)) (ip_mono (e_addI (e_i e_int) (e_drawC D1 0 (m := 3) hr1 rfl e_int (by omega) (by omega))) ?_) ?_) ?_) (e_fromW (e_var 4) (e_var 5) (by omega)) ?_) ?_) fun d hd => ?_)
  · rintro k ⟨i, j, rfl, hj, rfl⟩
    omega
  · rintro d ⟨n, hn, rfl⟩
    refine ⟨n, rfl, ?_⟩
    have := mul_ok (x := ws.take a') (n := n.toNat) (by rw [List.length_take]; omega) (by omega)
    rwa [Int.toNat_of_nonneg (by omega)] at this
  · rintro d ⟨n, ⟨n', hn, e⟩, rfl⟩
    cases e
    refine ⟨mulW (ws.take a') n.toNat, ⟨n.toNat, by omega, rfl⟩, ?_⟩
    have := mul_W (ws.take a') n.toNat
    rw [Int.toNat_of_nonneg (by omega)] at this
    exact congrArg PyData.str this
  · rintro x ⟨n, hn, rfl⟩
    rw [mulW_length, List.length_take, List.length_drop]
    have : n * min a' ws.length ≤ 4 * 6 := Nat.mul_le_mul hn (by omega)
    omega
  · rintro d ⟨x, ⟨n, hn, rfl⟩, rfl⟩
    refine ⟨_, ⟨fun c hc => ?_, ?_⟩, rfl⟩
    · rcases List.mem_append.mp hc with hc | hc
      · unfold mulW at hc
        obtain ⟨l, hl, hcl⟩ := List.mem_flatten.mp hc
        rw [(List.mem_replicate.mp hl).2] at hcl
        exact hws.1 c (List.mem_of_mem_take hcl)
      · exact hws.1 c (List.mem_of_mem_drop hc)
    · rw [List.length_append, mulW_length, List.length_take, List.length_drop]
      have : n * min a' ws.length ≤ 4 * 6 := Nat.mul_le_mul hn (by omega)
      omega
  · obtain ⟨v, hv, rfl⟩ := hd
    exact last v hv _ _
end
end Ly


set_option Elab.async false
set_option linter.all false
set_option maxRecDepth 100000
set_option maxHeartbeats 2000000
namespace Ly
open PySem PySem.Spec PyProof.Rows L2 Evl Rw
section
variable {P : Program} {w : World} {K : PySem.W.Frag} {mg : Str → Option Value} {base : Heap}
abbrev sSome : Stmt := topS 39
abbrev nSome : List Str := ["_law_tape_here", "_law_many", "_law_most", "_law_long", "_law_ways", "_law_k", "_law_word", "_law_at"]
theorem scSome : FnScope nSome ["_law_tape_here", "_law_many", "_law_most", "_law_long"] (defScope sSome) := ⟨rfl, rfl, rfl, by decide +kernel, rfl, by decide +kernel, by decide +kernel⟩
abbrev spSome (K : PySem.W.Frag) : Sp := spT K (fun i : Nat × Nat × Nat => [.int (i.1 : Int), .int (i.2.1 : Int), .int (i.2.2 : Int)]) (fun i => 1 ≤ i.1 ∧ i.1 ≤ 6 ∧ 1 ≤ i.2.1 ∧ i.2.1 ≤ 3 ∧ 1 ≤ i.2.2 ∧ i.2.2 ≤ 6) (fun i r => ∃ W, r = .dat (dWs W) ∧ WaysOk i.1 W)
theorem ok_some (T : Bl mg) (F : Dt K mg "_law_some_ways" sSome ["_law_tape_here", "_law_many", "_law_most", "_law_long"]) (D1 : Df P w K mg base 1 "_law_draw" ["_law_tape_here", "_law_many"] (spDraw K)) (D2 : Df P w K mg base 3 "_law_any_way" ["_law_tape_here", "_law_many", "_law_long"] (spAnyWay K)) (D3 : Df P w K mg base 1 "_law_back" ["_law_word"] (spBack K)) :
    Df P w K mg base 4 "_law_some_ways" ["_law_tape_here", "_law_many", "_law_most", "_law_long"] (spSome K) := by
  refine df_mkT F scSome (fun _ => rfl) fun f cdv A outer s H E hr i t hc => ?_
  have nd := scSome.nd
  obtain ⟨m, mo, lg⟩ := i
  dsimp only at hc ⊢
  obtain ⟨h1, h6, hm1, hm3, hl1, hl6⟩ := hc
  have hr1 := hr.mono (show 1 ≤ 3 by decide)
  refine s_cons (s_asgO 4 (o_lst1 (P := fun d => ∃ v, WayOk m v ∧ d = dW v) (e_callT D2 0 (m, lg) hr rfl (a_cons (e_var 1) (a_cons (e_var 3) a_nil)) ⟨h1, h6, hl1, hl6⟩ fun r ⟨v, e, hv⟩ => ⟨_, e, v, hv, rfl⟩)) fun d hd => ?_)
  obtain ⟨d0, ⟨v0, hv0, rfl⟩, rfl⟩ := hd
  refine s_cons (s_for (f := fN 5) (P := fun ds => ∃ n : Nat, n < 3 ∧ ds = (List.range n).map nI) (i_mono (i_rngI (p := fun i => 0 ≤ i ∧ i < (mo : Int)) T.range (e_drawC D1 0 hr1 rfl (e_var 2) hm1 (by omega)) fun i hi => by omega) fun ds ⟨n, hn, e⟩ => ⟨n, by omega, e⟩) (tg_name 5)
    (fun ds k Γ' => ∃ W : Ws, (∀ w ∈ W, WayOk m w) ∧ W.length = k + 1 ∧ ∃ o1 o2 o3, Γ' = [.tape, .dat (.int (m : Int)), .dat (.int (mo : Int)), .dat (.int (lg : Int)), .own (W.map dW), o1, o2, o3]) (fun ds hP => ⟨[v0], fun w hw => by rw [List.mem_singleton.mp hw]; exact hv0, rfl, _, _, _, rfl⟩) ?_ ?_)
  · rintro ds ⟨n, hn, rfl⟩ k d Γ' hd ⟨W, hW, hWl, o1, o2, o3, rfl⟩
    obtain ⟨a, hka, ham, rfl⟩ := map_at hd
    obtain ⟨rfl, hlt⟩ := range_at hka
    refine ⟨_, rfl, ?_⟩
    have last : ∀ v, WayOk m v → ∀ o5 o7, S (Bx P w K mg base nSome "_law_some_ways" sSome f cdv A outer s H E) (some t) [.tape, .dat (.int (m : Int)), .dat (.int (mo : Int)), .dat (.int (lg : Int)), .own (W.map dW), o5, .dat (dW v), o7]
        [match (defBody sSome).getD 1 (.Pass ⟨0, 0, 0, 0⟩) with | .For _ _ b _ _ => b.getD 2 (.Pass ⟨0, 0, 0, 0⟩) | s => s] { nx := fun Γ' => ∃ W : Ws, (∀ w ∈ W, WayOk m w) ∧ W.length = a + 1 + 1 ∧ ∃ o1 o2 o3, Γ' = [.tape, .dat (.int (m : Int)), .dat (.int (mo : Int)), .dat (.int (lg : Int)), .own (W.map dW), o1, o2, o3], rt := fun r => ∃ W, r = .dat (dWs W) ∧ WaysOk m W, ct := fun Γ' => ∃ W : Ws, (∀ w ∈ W, WayOk m w) ∧ W.length = a + 1 + 1 ∧ ∃ o1 o2 o3, Γ' = [.tape, .dat (.int (m : Int)), .dat (.int (mo : Int)), .dat (.int (lg : Int)), .own (W.map dW), o1, o2, o3], bk := fun Γ' => S (Bx P w K mg base nSome "_law_some_ways" sSome f cdv A outer s H E) (some t) Γ' ((defBody sSome).drop 2) { nx := fun _ => False, rt := fun r => ∃ W, r = .dat (dWs W) ∧ WaysOk m W } } := by
      intro v hv o5 o7
      refine s_one (s_append (P := fun d => d = dW v) 4 rfl (e_var 6) (by rw [List.length_map]; omega) fun d hd => ⟨W ++ [v], fun w hw => ?_, by rw [List.length_append, hWl]; rfl, ?_⟩)
      · rcases List.mem_append.mp hw with hw | hw
        · exact hW w hw
        · rw [List.mem_singleton.mp hw]; exact hv
      · subst hd
        rw [List.map_append]
        exact ⟨_, _, _, rfl⟩
    refine s_cons (s_asg 6 (P := fun d => ∃ v, WayOk m v ∧ d = dW v) (e_callT D2 0 (m, lg) hr rfl (a_cons (e_var 1) (a_cons (e_var 3) a_nil)) ⟨h1, h6, hl1, hl6⟩ fun r ⟨v, e, hv⟩ => ⟨_, e, v, hv, rfl⟩) fun d hd => ?_)
    obtain ⟨v, hv, rfl⟩ := hd
    refine s_cons (s_if (P := fun _ => True) (t_cmp (c_eqI (e_drawC D1 0 (m := 5) hr1 rfl e_int (by omega) (by omega)) (e_i e_int))) (fun _ => ?_) fun _ => s_nil (last v hv _ _))
    refine s_cons (s_asg 6 (P := fun d => ∃ v, v ∈ W ∧ d = dW v) (e_tmp 4 rfl (e_ixLN (as := W) (enc := dW) (e_var 4) (e_drawC D1 0 hr1 rfl (e_lenLM (as := W) (enc := dW) T.len (e_var 4) (by omega)) (by omega) (by omega))) fun d ⟨v, _, e⟩ => by rw [e]; rfl) fun d hd => ?_)
    obtain ⟨v2, hv2, rfl⟩ := hd
    have hk2 := hW v2 hv2
    have hl2 := hk2.len
    have hp2 := pos_len hk2.ne
    refine s_cons (s_asg 7 (e_drawC D1 0 hr1 rfl (e_lenW T.len (e_var 6) (by omega)) (by omega) (by omega)) fun d hd => ?_)
    obtain ⟨a7, ha7, rfl⟩ := hd
    obtain ⟨p, rfl⟩ : ∃ p : Nat, a7 = (p : Int) := ⟨a7.toNat, by omega⟩
    refine s_cons (s_asg 6 (P := fun d => ∃ v, v ∈ [v2, backW v2] ∧ d = dW v) (e_ixLN (as := [v2, backW v2]) (enc := dW) (ed_ofO (o_lst (a_cons (e_var 6) (a_cons (e_callF D3 v2 hr1 (a_cons (e_var 6) a_nil) ⟨fun c hc => ?_, by omega⟩) a_nil)))) (e_mono (e_drawC D1 0 (m := 2) hr1 rfl e_int (by omega) (by omega)) fun d hd => hd)) fun d hd => ?_)
    · have := hk2.lt c hc
      unfold Lt; omega
    obtain ⟨v3, hv3, rfl⟩ := hd
    have hk3 : WayOk m v3 ∧ v3.length = v2.length := by
      rcases (by simpa using hv3 : v3 = v2 ∨ v3 = backW v2) with rfl | rfl
      · exact ⟨hk2, rfl⟩
      · exact ⟨way_back hk2 h6, backW_len v2⟩
    refine s_one (s_asg 6 (P := fun d => d = dW (v3.drop p ++ v3.take p)) (e_catW (e_fromW (e_var 6) (e_var 7) (by omega)) (e_toW (e_var 6) (e_var 7) (by omega)) ?_) fun d hd => ?_)
    · rw [List.length_drop, List.length_take]; omega
    · subst hd
      exact last _ (way_rot hk3.1 (by omega)) _ _
  · rintro ds ⟨n, hn, rfl⟩ Γ' ⟨W, hW, hWl, o1, o2, o3, rfl⟩
    rw [List.length_map, List.length_range] at hWl
    refine s_freeze 4 rfl (s_one (s_ret (P := fun d => d = dWs W) (e_tuple T.tuple (e_var 4)) fun d hd => ⟨W, by rw [hd], fun z => ?_, by omega, hW⟩))
    rw [z] at hWl
    cases hWl
abbrev sSmall : Stmt := topS 49
abbrev nSmall : List Str := ["_law_tape_here", "_law_many", "_law_surface", "_law_most", "_law_ways"]
theorem scSmall : FnScope nSmall ["_law_tape_here", "_law_many", "_law_surface", "_law_most"] (defScope sSmall) := ⟨rfl, rfl, rfl, by decide +kernel, rfl, by decide +kernel, by decide +kernel⟩
abbrev spSmall (K : PySem.W.Frag) : Sp := spT K (fun i : Nat × List Nat × Nat => [.int (i.1 : Int), dW i.2.1, .int (i.2.2 : Int)]) (fun i => 1 ≤ i.1 ∧ i.1 ≤ 6 ∧ i.2.1.length = 2 * i.1 ∧ 1 ≤ i.2.2 ∧ i.2.2 ≤ 720) (fun i r => ∃ W, r = .dat (dWs W) ∧ WaysOk i.1 W ∧ howMany i.2.1 W ≤ 720)
theorem ways_wk {m : Nat} {W : Ws} (hm : m ≤ 6) (h : WaysOk m W) : Wk W := by
  refine ⟨by have := h.len; omega, fun w hw => by have := (h.ok w hw).len; omega, fun w hw c hc => ?_⟩
  have := (h.ok w hw).lt c hc
  unfold Lt
  omega
theorem small_ways {m : Nat} (h1 : 1 ≤ m) (h6 : m ≤ 6) : WaysOk m [([97, 98] : List Nat).take m] := by
  refine ⟨(fun z => nomatch z), (by show 1 ≤ 3; decide), fun w hw => ?_⟩
  rw [List.mem_singleton.mp hw]
  by_cases e : m = 1
  · subst e
    exact one_way (by decide)
  · have e2 : ([97, 98] : List Nat).take m = [97, 98] := List.take_of_length_le (by show 2 ≤ m; omega)
    rw [e2]
    have at2 : ∀ t, atW [97, 98] t = if t % 2 = 0 then 97 else 98 := fun t => by
      unfold atW
      show ([97, 98] : List Nat).getD (t % 2).toNat 0 = _
      have : t % 2 = 0 ∨ t % 2 = 1 := by omega
      rcases this with h | h <;> rw [h] <;> rfl
    refine ⟨(fun z => nomatch z), by decide, fun c hc => ?_, fun t => ?_, fun k h0 h2 h3 => ?_⟩
    · have : c = 97 ∨ c = 98 := by simpa using hc
      omega
    · rw [at2, at2]
      split <;> split <;> decide
    · have : k = 1 := by
        have : k < 2 := h2
        omega
      subst this
      exact ⟨0, by rw [at2, at2]; decide⟩
theorem small_few {m : Nat} {S : List Nat} (h6 : m ≤ 6) (hS : S.length = 2 * m) : howMany S [([97, 98] : List Nat).take m] ≤ 720 := by
  show HM [([97, 98] : List Nat).take m] (S.length / 2) ≤ 720
  rw [hS, show 2 * m / 2 = m by omega]
  have : m = 0 ∨ m = 1 ∨ m = 2 ∨ m = 3 ∨ m = 4 ∨ m = 5 ∨ m = 6 := by omega
  rcases this with rfl | rfl | rfl | rfl | rfl | rfl | rfl <;> decide
theorem cut_last {α : Type} {as : List α} {enc : α → PyData} (h : 1 < as.length) : cutD (as.map enc) none (some (-1)) = as.dropLast.map enc := by
  unfold cutD HT.sIx
  rw [List.length_map]
  simp only
  rw [if_pos (by decide), show ((-1 : Int) + (as.length : Int)).toNat - 0 = as.length - 1 by omega, List.drop_zero, List.dropLast_eq_take, List.map_take]
theorem ok_small (T : Bl mg) (F : Dt K mg "_law_small" sSmall ["_law_tape_here", "_law_many", "_law_surface", "_law_most"]) (D1 : Df P w K mg base 4 "_law_some_ways" ["_law_tape_here", "_law_many", "_law_most", "_law_long"] (spSome K)) (D2 : Df P w K mg base 1 "_law_how_many" ["_law_surface", "_law_ways"] (spHow K)) :
    Df P w K mg base 5 "_law_small" ["_law_tape_here", "_law_many", "_law_surface", "_law_most"] (spSmall K) := by
  refine df_mkT F scSmall (fun _ => rfl) fun f cdv A outer s H E hr i t hc => ?_
  have nd := scSmall.nd
  obtain ⟨m, S, mo⟩ := i
  dsimp only at hc ⊢
  obtain ⟨h1, h6, hS, hm1, hm7⟩ := hc
  have hr1 := hr.mono (show 1 ≤ 4 by decide)
  refine s_cons (s_asg 4 (P := fun d => ∃ W, d = dWs W ∧ WaysOk m W) (e_callT D1 0 (m, 3, 6) hr rfl (a_cons (e_var 1) (a_cons e_int (a_cons e_int a_nil))) ⟨h1, h6, show 1 ≤ 3 by decide, show 3 ≤ 3 by decide, show 1 ≤ 6 by decide, show 6 ≤ 6 by decide⟩ fun r ⟨W, e, hW⟩ => ⟨_, e, W, rfl, hW⟩) fun d hd => ?_)
  obtain ⟨W0, rfl, hW0⟩ := hd
  refine s_cons (s_while (fun n Γ' => ∃ W : Ws, W.length = n ∧ WaysOk m W ∧ Γ' = [.tape, .dat (.int (m : Int)), .dat (dW S), .dat (.int (mo : Int)), .dat (dWs W)]) W0.length ⟨W0, rfl, hW0, rfl⟩ ?_)
  rintro n Γ' ⟨W, rfl, hW, rfl⟩
  have hk := ways_wk h6 hW
  have hl := hW.len
  refine ⟨fun b => b = (decide (1 < W.length) && decide (mo < howMany S W)), ?_, fun h => ?_, fun h => ?_⟩
  · exact t_w (wd_and (t_eq (t_cmp (c_gt (e_lenTM (as := W) (enc := dW) T.len (e_var 4) (by omega)) e_int)) (decide_eq_decide.mpr (by omega))) fun _ => w_and1 (t_eq (t_cmp (c_gt (e_callF (d := .int ((howMany S W : Nat) : Int)) D2 (S, W) hr1 (a_cons (e_var 2) (a_cons (e_var 4) a_nil)) ⟨hk, by show S.length ≤ 12; omega⟩) (e_var 3))) (decide_eq_decide.mpr (by omega))))
  · obtain ⟨h2, h3⟩ := (Bool.and_eq_true _ _).mp h.symm
    have h2 := of_decide_eq_true h2
    refine s_one (s_asg 4 (P := fun d => d = dWs W.dropLast) (e_eq (e_slT (e_var 4) po_no (po_yes e_m1)) (congrArg PyData.tuple (cut_last h2))) fun d hd => ?_)
    subst hd
    refine ⟨W.dropLast.length, by rw [List.length_dropLast]; omega, _, rfl, ⟨fun z => ?_, by rw [List.length_dropLast]; omega, fun w hw => hW.ok w (by rw [List.dropLast_eq_take] at hw; exact List.mem_of_mem_take hw)⟩, rfl⟩
    have := congrArg List.length z
    rw [List.length_dropLast, List.length_nil] at this
    omega
  · refine s_one (s_ret (P := fun d => ∃ W, d = dWs W ∧ WaysOk m W ∧ howMany S W ≤ 720) (e_if (P := fun b => b = decide (howMany S W ≤ mo)) (t_eq (t_cmp (c_le (e_callF (d := .int ((howMany S W : Nat) : Int)) D2 (S, W) hr1 (a_cons (e_var 2) (a_cons (e_var 4) a_nil)) ⟨hk, by show S.length ≤ 12; omega⟩) (e_var 3))) (decide_eq_decide.mpr (by omega))) (fun h => ?_) fun h => ?_) fun d ⟨W, e, hW⟩ => ⟨W, by rw [e], hW⟩)
    · have h' := of_decide_eq_true h.symm
      exact e_mono (e_var 4) fun d hd => ⟨W, hd, hW, by omega⟩
    · refine e_mono (e_tup (a_cons (e_toW (n := m) (S := [97, 98]) (e_eq e_str (congrArg PyData.str (show ("ab" : Str) = Tx [97, 98] by decide +kernel))) (e_var 1) (by decide)) a_nil)) fun d hd => ⟨[([97, 98] : List Nat).take m], hd, small_ways h1 h6, small_few h6 hS⟩
end
end Ly


set_option Elab.async false
set_option linter.all false
set_option maxRecDepth 100000
set_option maxHeartbeats 2000000
namespace Ly
open PySem PySem.Spec PyProof.Rows L2 Evl Rw
def dO : Option Nat → PyData
  | none => .none
  | some n => .int (n : Int)
def mnl (ls : List Nat) : Option Nat := ls.foldl (fun o x => some (match o with | none => x | some y => if x < y then x else y)) none
theorem mnl_snoc (ls : List Nat) (x : Nat) : mnl (ls ++ [x]) = some (match mnl ls with | none => x | some y => if x < y then x else y) := by
  unfold mnl
  rw [List.foldl_append]
  rfl
theorem mnl_spec : ∀ ls : List Nat, (ls = [] ∧ mnl ls = none) ∨ ∃ m, mnl ls = some m ∧ m ∈ ls ∧ ∀ x ∈ ls, m ≤ x := by
  refine snoc_ind (.inl ⟨rfl, rfl⟩) fun ls x ih => .inr ?_
  rw [mnl_snoc]
  rcases ih with ⟨h1, h2⟩ | ⟨m, h1, h2, h3⟩
  · rw [h2]
    refine ⟨x, rfl, by simp, fun y hy => ?_⟩
    rw [h1] at hy
    have : y = x := by simpa using hy
    omega
  · rw [h1]
    by_cases c : x < m
    · refine ⟨x, by simp only [if_pos c], by simp, fun y hy => ?_⟩
      rcases List.mem_append.mp hy with hy | hy
      · have := h3 y hy; omega
      · rw [List.mem_singleton.mp hy]; exact Nat.le_refl x
    · refine ⟨m, by simp only [if_neg c], by simp [h2], fun y hy => ?_⟩
      rcases List.mem_append.mp hy with hy | hy
      · exact h3 y hy
      · rw [List.mem_singleton.mp hy]; omega
theorem mnl_is {ls : List Nat} {m : Nat} (h1 : m ∈ ls) (h2 : ∀ x ∈ ls, m ≤ x) : mnl ls = some m := by
  rcases mnl_spec ls with ⟨h, _⟩ | ⟨k, h3, h4, h5⟩
  · rw [h] at h1; cases h1
  · have := h5 m h1
    have := h2 k h4
    rw [h3, show k = m by omega]
theorem eqv_map {α : Type} [DecidableEq α] {enc : α → PyData} (h : ∀ a b, PyData.eqv (enc a) (enc b) = decide (a = b)) : ∀ as bs : List α, PyData.eqvAll (as.map enc) (bs.map enc) = decide (as = bs)
  | [], [] => by rw [List.map_nil, PyData.eqvAll]; rfl
  | [], b :: bs => by rw [List.map_nil, List.map_cons, PyData.eqvAll]; rfl
  | a :: as, [] => by rw [List.map_nil, List.map_cons, PyData.eqvAll]; rfl
  | a :: as, b :: bs => by
    rw [List.map_cons, List.map_cons, PyData.eqvAll, h, eqv_map h as bs, Bool.eq_iff_iff]
    simp only [Bool.and_eq_true, decide_eq_true_eq, List.cons.injEq]
theorem eqv_Row (x y : List Sd) : PyData.eqv (dRow x) (dRow y) = decide (x = y) := by
  unfold dRow
  rw [PyData.eqv]
  exact eqv_map eqv_S x y
theorem eqv_D (x y : Dw) : PyData.eqv (dD x) (dD y) = decide (x = y) := by
  unfold dD
  rw [PyData.eqv]
  exact eqv_map eqv_Row x y
theorem can_Row (x : List Sd) : (dRow x).canLay0 = true := by unfold dRow; rw [PyData.canLay0]; exact canL fun a _ => can_S a
theorem can_D (x : Dw) : (dD x).canLay0 = true := by unfold dD; rw [PyData.canLay0]; exact canL fun a _ => can_Row a
theorem dep_Row (x : List Sd) : (dRow x).depth ≤ 2 := by
  unfold dRow
  rw [PyData.depth]
  have := depL (n := 1) (as := x) (enc := dS) fun a _ => by rw [depth_S]; exact Nat.le_refl 1
  omega
theorem dep_D (x : Dw) : (dD x).depth ≤ 3 := by
  unfold dD
  rw [PyData.depth]
  have := depL (n := 2) (as := x) (enc := dRow) fun a _ => dep_Row a
  omega
theorem shape_D (x : Dw) : SeqAt.shaped (dD x) = true := by
  unfold SeqAt.shaped
  rw [can_D, decide_eq_true (Nat.le_trans (dep_D x) (by decide))]
  rfl
theorem shape_Ds (L : List Dw) : SeqAt.shaped (.list (L.map dD)) = true := by
  unfold SeqAt.shaped
  rw [PyData.canLay0, canL fun a _ => can_D a, decide_eq_true ?_]
  · rfl
  · rw [PyData.depth]
    have := depL (n := 3) (as := L) (enc := dD) fun a _ => dep_D a
    omega
theorem shape_0 : SeqAt.shaped (.list []) = true := by
  unfold SeqAt.shaped
  simp only [PyData.canLay0, PyData.canLayAll0, PyData.depth, PyData.depthAll]
  rfl
theorem eqv_0 : PyData.eqv (.list []) (.list []) = true := by rw [PyData.eqv, PyData.eqvAll]
section
variable {X : Cx} {tp : TPar} {Γ : List Sl} {e : Expr} {pos p2 : Pos}
theorem e_lenO {n : Nat} (hm : X.mg "len" = none) (h : O X tp Γ e (fun es => es.length = n)) (hg : Gl X "len" := by rfl) (he : starEach [e] X.env = (false, eval e X.env) :: starEach [] X.env := by rfl) (hpl : (backTo pos (starEach [] X.env)).any (·.1) = false := by rfl) :
    Ed X tp Γ (.Call (.Name "len" p2) [e] [] pos) (.int (n : Int)) :=
  e_of (pe_callB call_len_seq hg hm PySem.boot_len (pa_cons pe_w pa_nil he) (by decide) (by decide) he hpl) fun B σ G H hv Q q => h B σ G H hv _ fun p vs xs G2 H2 hn h1 h2 h3 hd a => by
    refine ⟨p, vs, rfl, .inl (SqL.of h3), ?_⟩
    rw [hd.length, hn]
    exact q _ _ G2 H2 rfl (.int _) a
end
section
variable {P : Program} {w : World} {K : PySem.W.Frag} {mg : Str → Option Value} {base : Heap}
abbrev sRight : Stmt := topS 50
abbrev nRight : List Str := ["_law_surface", "_law_ways", "_law_told", "_law_i", "_law_j", "_law_drawings", "_law_least", "_law_drawing", "_law_found", "_law_pair"]
theorem scRight : FnScope nRight ["_law_surface", "_law_ways"] (defScope sRight) := ⟨rfl, rfl, rfl, by decide +kernel, rfl, by decide +kernel, by decide +kernel⟩
abbrev spRight (K : PySem.W.Frag) : Sp := spF K (fun i : List Nat × Ws => [dW i.1, dWs i.2]) (fun i => Sk i.1 i.2 ∧ i.1.length ≤ 12 ∧ (strandsOf i.2).length ≤ 100 ∧ (∀ c ∈ i.1, Lt c) ∧ (∀ c ∈ i.1, low c - 97 < i.1.length / 2) ∧ Good i.1 i.2) (fun i => .bool true)
theorem sum_int (l : List Nat) : (l.map fun n : Nat => (n : Int)).sum = ((l.sum : Nat) : Int) := by
  induction l with
  | nil => rfl
  | cons a l ih => rw [List.map_cons, List.sum_cons, List.sum_cons, ih, Int.natCast_add]
theorem cross_ways {S : List Nat} {W : Ws} {D : Dw} : ∀ p ∈ crossingsM S W D, p.1.1 ≤ p.2.1 ∧ p.2.1 < W.length := by
  have ord : ∀ L : List Chd, L.Pairwise (fun x y => x.s.1 ≤ y.s.1) → ∀ p ∈ pairsUp L, p.1.s.1 ≤ p.2.s.1 ∧ p.2 ∈ L := by
    intro L
    induction L with
    | nil => intro _ p hp; cases hp
    | cons x L ih =>
      intro h p hp
      obtain ⟨h1, h2⟩ := List.pairwise_cons.mp h
      unfold pairsUp at hp
      rcases List.mem_append.mp hp with hp | hp
      · obtain ⟨y, hy, rfl⟩ := List.mem_map.mp hp
        exact ⟨h1 y hy, List.mem_cons_of_mem _ hy⟩
      · exact ⟨(ih h2 p hp).1, List.mem_cons_of_mem _ (ih h2 p hp).2⟩
  have srt : ∀ n, (SO W n).Pairwise (fun x y => x.1 ≤ y.1) := by
    intro n
    induction n with
    | zero => exact List.Pairwise.nil
    | succ n ih =>
      rw [SO_succ, List.pairwise_append]
      refine ⟨ih, ?_, fun a ha b hb => ?_⟩
      · rw [List.pairwise_map]
        exact List.Pairwise.imp (fun _ => Nat.le_refl n) (List.nodup_range (n := (wy W n).length))
      · obtain ⟨q, _, rfl⟩ := List.mem_map.mp hb
        unfold SO at ha
        obtain ⟨i, hi, ha⟩ := List.mem_flatMap.mp ha
        obtain ⟨p, _, rfl⟩ := List.mem_map.mp ha
        have := List.mem_range.mp hi
        show i ≤ n
        omega
  intro p hp
  unfold crossingsM at hp
  obtain ⟨q, hq, rfl⟩ := List.mem_map.mp hp
  have hq := (List.mem_filter.mp hq).1
  obtain ⟨h1, h2⟩ := ord _ (by
    rw [List.pairwise_map]
    exact srt W.length) q hq
  refine ⟨h1, ?_⟩
  obtain ⟨s, hs, e⟩ := List.mem_map.mp h2
  show q.2.s.1 < W.length
  rw [← e]
  exact (strands_is hs).1
theorem ok_right (T : Bl mg) (F : Dt K mg "_law_right" sRight ["_law_surface", "_law_ways"]) (D1 : Df P w K mg base 6 "links" ["surface", "ways", "i", "j"] (spLinks K)) (D2 : Df P w K mg base 2 "_law_every_drawing" ["_law_surface", "_law_ways"] (spED K)) (D3 : Df P w K mg base 3 "_law_all_crossings" ["_law_surface", "_law_ways", "_law_drawing"] (spCrossings K))
    (D4 : Df P w K mg base 1 "_law_count" ["_law_found", "_law_i", "_law_j"] (spCount K)) (D5 : Df P w K mg base 7 "tight" ["surface", "ways"] (spTight K)) : Df P w K mg base 8 "_law_right" ["_law_surface", "_law_ways"] (spRight K) := by
  refine df_mk F scRight (fun _ => rfl) fun f cdv A outer s H E hr i hc => ?_
  have nd := scRight.nd
  obtain ⟨S, W⟩ := i
  dsimp only at hc ⊢
  obtain ⟨hk, hS, hfew, hlt, hix, hG⟩ := hc
  have hr6 := hr.mono (show 6 ≤ 7 by decide)
  have hr3 := hr.mono (show 3 ≤ 7 by decide)
  have hr2 := hr.mono (show 2 ≤ 7 by decide)
  have hr1 := hr.mono (show 1 ≤ 7 by decide)
  have hun := hr.un
  have hu1 := Nat.lt_of_le_of_lt (Nat.add_le_add_left (show 1 ≤ 64 by decide) _) hr.units
  have hwf := hk.wk.few
  have hcl : ∀ D, (crossingsM S W D).length ≤ 100 * 100 := fun D => Nat.le_trans (CX_len _) (by rw [List.length_map]; exact Nat.mul_le_mul hfew hfew)
  have hDk : ∀ D ∈ everyDrawing S W, Dk S D := fun D hD => ⟨hlt, fun c hc => by rw [(hG.row D hD).1]; exact hix c hc, hS, (hG.row D hD).2⟩
  have hCr : ∀ D ∈ everyDrawing S W, Wk W ∧ Dk S D ∧ Pk S W D ∧ (strandsOf W).length ≤ 100 := fun D hD => ⟨hk.wk, hDk D hD, hG.pk D hD, hfew⟩
  refine s_cons (s_newTab 2 ?_)
  refine s_cons (s_forM (List.range W.length) nI (i_rngN T.range (e_lenTM T.len (e_var 1) (by omega)) (by omega)) (tg_name 3) (fun k Γ' => ∃ o1 o2 o3 o4 o5 o6 o7, Γ' = [.dat (dW S), .dat (dWs W), .tab (tabK (pairsTo W.length k) (lkc S W)), o1, o2, o3, o4, o5, o6, o7]) ⟨_, _, _, _, _, _, _, rfl⟩ ?_ ?_)
  · rintro k a hka ha Γ' ⟨o1, o2, o3, o4, o5, o6, o7, rfl⟩
    obtain ⟨rfl, hlt⟩ := range_at hka
    refine ⟨_, rfl, ?_⟩
    have hpl : ∀ k ≤ W.length, (pairsTo W.length k).length ≤ 100 * k := fun k hk => by
      induction k with
      | zero => exact Nat.le_refl 0
      | succ k ih =>
        rw [pairsTo_succ, List.length_append, List.length_map, List.length_range]
        have := ih (by omega)
        omega
    have hpa := hpl a (by omega)
    refine s_one (s_forM (List.range (W.length - a)) (fun (d : Nat) => .int (((a + d : Nat)) : Int)) (i_mono (i_rng2 T.range (e_var 3) (e_lenTM T.len (e_var 1) (by omega)) (by omega)) fun ds hd => ?_) (tg_name 4) (fun d Γ' => ∃ o2 o3 o4 o5 o6 o7, Γ' = [.dat (dW S), .dat (dWs W), .tab (tabK (pairsTo W.length a ++ (List.range d).map fun d => (a, a + d)) (lkc S W)), .dat (nI a), o2, o3, o4, o5, o6, o7]) ⟨_, _, _, _, _, _, by rw [List.range_zero, List.map_nil, List.append_nil]; rfl⟩ ?_ ?_)
    · rw [hd]
      unfold rangeD
      rw [show ((W.length : Int) - (a : Int)).toNat = W.length - a by omega]
      exact List.map_congr_left fun d _ => congrArg PyData.int (by omega)
    · rintro d b hdb hb Γ' ⟨o2, o3, o4, o5, o6, o7, rfl⟩
      obtain ⟨rfl, hlb⟩ := range_at hdb
      refine ⟨_, rfl, ?_⟩
      refine s_one (s_tabSet 2 (L := pairsTo W.length a ++ (List.range b).map fun d => (a, a + d)) (g := lkc S W) (q := (a, a + b)) (by omega) rfl (e_lenO T.len (o_call D1 (S, W, a, a + b) hr6 (a_cons (e_var 0) (a_cons (e_var 1) (a_cons (e_var 3) (a_cons (e_var 4) a_nil)))) ⟨hk, hlt, by show a + b < W.length; omega⟩ fun r ⟨es, e, hes⟩ => ⟨es, e, hes⟩)) (e_tup (a_cons (e_var 3) (a_cons (e_var 4) a_nil))) (fun z => ?_) ?_ ?_)
      · rcases List.mem_append.mp z with z | z
        · exact Nat.lt_irrefl _ (pairsTo_mem.mp z).1
        · obtain ⟨d, hd, e⟩ := List.mem_map.mp z
          have := congrArg Prod.snd e
          have := List.mem_range.mp hd
          simp at *
      · rw [List.length_append, List.length_map, List.length_range]; omega
      · show ∃ o2 o3 o4 o5 o6 o7, _ = [_, _, Sl.tab (tabK (pairsTo W.length a ++ (List.range (b + 1)).map fun d => (a, a + d)) (lkc S W)), _, o2, o3, o4, o5, o6, o7]
        rw [List.range_succ, List.map_append, ← List.append_assoc]
        exact ⟨_, _, _, _, _, _, rfl⟩
    · rintro Γ' ⟨o2, o3, o4, o5, o6, o7, rfl⟩
      rw [List.length_range, ← pairsTo_succ]
      exact ⟨_, _, _, _, _, _, _, rfl⟩
  rintro Γ' ⟨o1, o2, o3, o4, o5, o6, o7, rfl⟩
  rw [List.length_range]
  have hmem : ∀ q ∈ pairsIJ W, q.1 < W.length ∧ q.2 < W.length := fun q hq => by
    have := pairsTo_mem.mp hq
    omega
  have hpl2 : (pairsIJ W).length < 1000000 := by
    have : ∀ n k, (pairsTo n k).length ≤ n * k := by
      intro n k
      induction k with
      | zero => exact Nat.le_refl 0
      | succ k ih =>
        rw [pairsTo_succ, List.length_append, List.length_map, List.length_range, Nat.mul_succ]
        omega
    have h1 := this W.length W.length
    have h2 : W.length * W.length ≤ 100 * 100 := Nat.mul_le_mul hwf hwf
    exact Nat.lt_of_le_of_lt (Nat.le_trans h1 h2) (by decide)
  refine s_cons (s_asgO 5 (o_callF D2 (S, W) hr2 (a_cons (e_var 0) (a_cons (e_var 1) a_nil)) ⟨hk.wk, hS, Nat.le_trans hG.few (by decide)⟩) fun d hd => ?_)
  subst hd
  refine s_freeze 5 rfl (s_cons (s_asg 6 (P := fun d => d = dO none) e_non fun d hd => ?_))
  subst hd
  let ln : Dw → Nat := fun D => (crossingsM S W D).length
  refine s_cons (s_forM (everyDrawing S W) dD (i_listD (e_var 5)) (tg_name 7) (fun k Γ' => ∃ o3 o4 o5 o6 o7, Γ' = [.dat (dW S), .dat (dWs W), .tab (tabK (pairsIJ W) (lkc S W)), o3, o4, .dat (.list ((everyDrawing S W).map dD)), .dat (dO (mnl (((everyDrawing S W).take k).map ln))), o5, o6, o7]) ⟨_, _, _, _, _, rfl⟩ ?_ ?_)
  · rintro k D hkD hD Γ' ⟨o3, o4, o5, o6, o7, rfl⟩
    refine ⟨_, rfl, ?_⟩
    have hlo := hG.lo D hD
    have hcD := hcl D
    refine s_cons (s_asgO 8 (o_callF D3 (S, W, D) hr3 (a_cons (e_var 0) (a_cons (e_var 1) (a_cons (e_var 7) a_nil))) (hCr D hD)) fun d hd => ?_)
    subst hd
    refine s_freeze 8 rfl (s_cons (s_if (P := fun b => b = !true) ?_ (fun h => nomatch h) fun _ => s_nil ?_))
    · refine t_lock 2 rfl (t_eq (t_cmp (c_neD hr.units (ed_ofO (o_filt 9 (as := pairsIJ W) (enc := dP) (fun q => decide (countM (crossingsM S W D) q.1 q.2 < lkc S W q)) dP (i_tab 2 rfl) hpl2 (fun q hq s H C cl fp => ?_) fun q hq hp s H C cl fp => e_var 9)) (ed_ofO (o_lst a_nil)) ?_ shape_0)) ?_)
      · exact t_cmp (c_ltN (e_callF D4 (crossingsM S W D, q.1, q.2) hr1 (a_cons (e_var 8) (a_cons (e_ixT (e_var 9) e_int rfl) (a_cons (e_ixT (e_var 9) e_int rfl) a_nil))) (by show (crossingsM S W D).length ≤ 100000; omega)) (e_tabGet 2 hu1 rfl (e_var 9) hq))
      · rw [List.filter_eq_nil_iff.mpr fun q hq => by have := hlo q hq; simp; omega]
        exact shape_0
      · rw [List.filter_eq_nil_iff.mpr fun q hq => by have := hlo q hq; simp; omega, List.map_nil, eqv_0]
    · refine s_one (s_asg 6 (P := fun d => d = dO (mnl (((everyDrawing S W).take (k + 1)).map ln))) ?_ fun d hd => ?_)
      · rw [take_step hkD, List.map_append, List.map_singleton, mnl_snoc]
        cases hmn : mnl (((everyDrawing S W).take k).map ln) with
        | none =>
          refine e_if (P := fun b => b = true) (t_cmp (c_isN (dx := .none) (e_var 6))) (fun _ => ?_) (fun h => nomatch h)
          exact e_lenLM (as := crossingsM S W D) (enc := dPr) T.len (e_var 8) (by omega)
        | some y =>
          refine e_if (P := fun b => b = false) (t_cmp (c_isN (dx := .int (y : Int)) (e_var 6))) (fun h => nomatch h) (fun _ => ?_)
          refine e_eq (e_min2 (i := (y : Int)) (j := ((ln D : Nat) : Int)) rfl T.min (e_var 6) (e_lenLM (as := crossingsM S W D) (enc := dPr) T.len (e_var 8) (by omega))) ?_
          show PyData.int (if ((ln D : Nat) : Int) < (y : Int) then ((ln D : Nat) : Int) else (y : Int)) = PyData.int (((if ln D < y then ln D else y) : Nat) : Int)
          congr 1
          by_cases c : ln D < y
          · rw [if_pos c, if_pos (by omega)]
          · rw [if_neg c, if_neg (by omega)]
      · subst hd
        exact ⟨_, _, _, _, _, rfl⟩
  rintro Γ' ⟨o3, o4, o5, o6, o7, rfl⟩
  have hsum : ∀ D ∈ everyDrawing S W, ((pairsIJ W).map fun p => countM (crossingsM S W D) p.1 p.2).sum = ln D := fun D hD => (count_sum cross_ways).symm
  have hleast : mnl ((everyDrawing S W).map ln) = some ((pairsIJ W).map (lkc S W)).sum := by
    refine mnl_is (List.mem_map.mpr ⟨_, hG.tin, ?_⟩) fun x hx => ?_
    · rw [← hsum _ hG.tin]
      exact congrArg List.sum (List.map_congr_left fun p hp => hG.teq p hp)
    · obtain ⟨D, hD, rfl⟩ := List.mem_map.mp hx
      rw [← hsum D hD]
      have : ∀ L : List (Nat × Nat), (∀ p ∈ L, lkc S W p ≤ countM (crossingsM S W D) p.1 p.2) → (L.map (lkc S W)).sum ≤ (L.map fun p => countM (crossingsM S W D) p.1 p.2).sum := by
        intro L
        induction L with
        | nil => intro _; exact Nat.le_refl 0
        | cons p L ih =>
          intro h
          rw [List.map_cons, List.map_cons, List.sum_cons, List.sum_cons]
          exact Nat.add_le_add (h p List.mem_cons_self) (ih fun q hq => h q (List.mem_cons_of_mem _ hq))
      exact this _ (hG.lo D hD)
  rw [List.take_length, hleast]
  have hcT := hcl (tightM S W)
  refine s_cons (s_asg 7 (P := fun d => d = dD (tightM S W)) (e_callF D5 (S, W) hr (a_cons (e_var 0) (a_cons (e_var 1) a_nil)) ⟨hk, hS⟩) fun d hd => ?_)
  subst hd
  refine s_cons (s_if (P := fun b => b = (!true || !true)) (t_w (wd_or (t_eq (t_cmp (c_notInD (by omega) (e_var 7) (e_var 5) (shape_D _) (shape_Ds _))) ?_) fun _ => w_or1 (t_lock 2 rfl (t_eq (t_cmp (c_ne (k := true) (e_var 6) (e_sum (ns := (pairsIJ W).map fun q => ((lkc S W q : Nat) : Int)) rfl T.sum (e_eq (ed_ofO (o_map 9 (as := pairsIJ W) (enc := dP) (fun q => .int ((lkc S W q : Nat) : Int)) (i_tab 2 rfl) hpl2 fun q hq s H C cl fp => ?_)) ?_)) ?_)) rfl)))) (fun h => nomatch h) fun _ => s_nil ?_)
  · congr 1
    exact List.any_eq_true.mpr ⟨_, List.mem_map.mpr ⟨_, hG.tin, rfl⟩, by rw [eqv_D]; exact decide_eq_true rfl⟩
  · exact e_tabGet 2 hu1 rfl (e_var 9) hq
  · rw [List.map_map]; rfl
  · have := sum_int ((pairsIJ W).map (lkc S W))
    rw [List.map_map] at this
    show some (decide (((((pairsIJ W).map (lkc S W)).sum : Nat) : Int) = ((pairsIJ W).map fun q => ((lkc S W q : Nat) : Int)).sum)) = some true
    rw [← this]
    exact congrArg some (decide_eq_true rfl)
  refine s_cons (s_asgO 8 (o_callF D3 (S, W, tightM S W) hr3 (a_cons (e_var 0) (a_cons (e_var 1) (a_cons (e_var 7) a_nil))) (hCr _ hG.tin)) fun d hd => ?_)
  subst hd
  refine s_freeze 8 rfl (s_one (s_ret (P := fun d => d = .bool true) (e_lock 2 rfl (e_eq (ed_cmp (c_eqD hr.units (ed_ofO (o_filt 9 (as := pairsIJ W) (enc := dP) (fun q => !decide (countM (crossingsM S W (tightM S W)) q.1 q.2 = lkc S W q)) dP (i_tab 2 rfl) hpl2 (fun q hq s H C cl fp => ?_) fun q hq hp s H C cl fp => e_var 9)) (ed_ofO (o_lst a_nil)) ?_ shape_0)) ?_) fun d hd => by rw [hd]; rfl) fun d hd => by rw [hd]))
  · exact t_cmp (cm_b (c_ne (e_callF D4 (crossingsM S W (tightM S W), q.1, q.2) hr1 (a_cons (e_var 8) (a_cons (e_ixT (e_var 9) e_int rfl) (a_cons (e_ixT (e_var 9) e_int rfl) a_nil))) (by show (crossingsM S W (tightM S W)).length ≤ 100000; omega)) (e_tabGet 2 hu1 rfl (e_var 9) hq) rfl) (congrArg Bool.not (decide_eq_decide.mpr (by
      show ((countM (crossingsM S W (tightM S W)) q.1 q.2 : Nat) : Int) = ((lkc S W q : Nat) : Int) ↔ _
      omega))))
  · rw [List.filter_eq_nil_iff.mpr fun q hq => by simp [hG.teq q hq]]
    exact shape_0
  · rw [List.filter_eq_nil_iff.mpr fun q hq => by simp [hG.teq q hq], List.map_nil, eqv_0]
end
end Ly


set_option Elab.async false
set_option linter.all false
set_option maxRecDepth 100000
set_option maxHeartbeats 2000000
namespace Ly
open PySem PySem.Spec PyProof.Rows L2 Evl Rw
section
variable {X : Cx} {tp : TPar} {Γ : List Sl} {e a b : Expr} {pos p2 : Pos} {P R : PyData → Prop}
/-- a call of two arguments, the second not known -/
theorem e_callN2 {ι : Type} {d1 : PyData} {args : ι → List PyData} {pre : ι → Prop} {res : ι → Rv → Prop} {k : Nat} {x : Str} {ps : List Str} (D : Df X.prog X.w X.K X.mg X.base k x ps (spI X.K args pre res)) (hr : Room k X.A) (ha : Ed X tp Γ a d1) (hb : E X tp Γ b P)
    (h : ∀ d, P d → ∃ i, args i = [d1, d] ∧ pre i ∧ ∀ r, res i r → ∃ d, r = .dat d ∧ R d) (hg : Gl X x := by rfl) (hdb : (x == ("__debug__" : Str)) = false := by decide) (he : starEach [a, b] X.env = (false, eval a X.env) :: starEach [b] X.env := by rfl) (he2 : starEach [b] X.env = (false, eval b X.env) :: starEach [] X.env := by rfl) (hpl : (backTo pos (starEach [b] X.env)).any (·.1) = false := by rfl) :
    E X tp Γ (.Call (.Name x p2) [a, b] [] pos) R := by
  obtain ⟨f, fd, F, hm, hk, hbd⟩ := D.ex
  exact e_of (pe_call F hr hg hm hk hbd .nil pass0 (pa_cons pe_w (pa_cons pe_w pa_nil he2) he) hdb he hpl) fun B σ G H hv Q q => ha B σ G H hv _ fun v d G2 H2 hd hx a => hb B σ G2 H2 (hv.adv' a) _ fun u d' G3 H3 hd' hx' a' => by
    subst hd
    obtain ⟨i, e1, hp, hq⟩ := h d' hd'
    refine ⟨i, G3, a'.sub, by rw [e1]; exact .cons (Dq.ex hx a'.gx) (.cons hx' .nil), hp, fun r v G4 H4 hr ok a4 => ?_⟩
    obtain ⟨d, rfl, hR⟩ := hq r hr
    exact q v d G4 H4 hR ok ((a.trans a').trans a4.any)
end
theorem surf_sk {S : List Nat} {n : Nat} {W : Ws} (hS : SurfOk S n) (hW : WaysOk n W) : Sk S W := by
  refine ⟨ways_wk hS.m6 hW, by rw [hS.len]; have := hS.m6; omega, fun w hw c hc => ?_⟩
  have := (hW.ok w hw).lt c hc
  have h6 := hS.m6
  refine ⟨(hS.mem c).mpr this, (hS.mem _).mpr ?_⟩
  unfold bk
  split <;> omega
theorem strands_le {n : Nat} {W : Ws} (hW : WaysOk n W) : (strandsOf W).length ≤ 100 := by
  have : ∀ k, k ≤ W.length → (SO W k).length ≤ 6 * k := by
    intro k
    induction k with
    | zero => intro _; exact Nat.le_refl 0
    | succ k ih =>
      intro hk
      rw [SO_succ, List.length_append, List.length_map, List.length_range]
      have := ih (by omega)
      have := (hW.ok _ (wy_mem (show k < W.length by omega))).len
      omega
  have h1 := this W.length (Nat.le_refl _)
  have h2 := hW.len
  show (SO W W.length).length ≤ 100
  omega
section
variable {P : Program} {w : World} {K : PySem.W.Frag} {mg : Str → Option Value} {base : Heap}
abbrev sTape : Stmt := topS 32
theorem scTape : FnScope ["_law_script"] ["_law_script"] (defScope sTape) := ⟨rfl, rfl, rfl, by decide +kernel, rfl, by decide +kernel, by decide +kernel⟩
def spTape (K : PySem.W.Frag) : Sp := fun vs H Q _ => ∃ (a : Addr) (ns : List Int), vs = [.ref a] ∧ SqL K H a (ns.map V.int) ∧ ns.length ≤ 63 ∧
  ∀ p c H2, H2 p = some (.lst [.ref c, .int 0, .int 0, .int 0]) → H2 c = some (.lst (ns.map V.int)) → p ≠ c → Q (.ref p) H2
theorem cut63 (ns : List Int) (h : ns.length ≤ 63) : cutV (ns.map V.int) none (some 63) = ns.map V.int := by
  unfold cutV
  rw [HT.sIx_none, show HT.sIx (ns.map V.int).length (ns.map V.int).length (some 63) = min 63 (ns.map V.int).length from HT.sIx_nat _ _ 63, List.drop_zero, Nat.sub_zero, List.length_map, Nat.min_eq_right h]
  exact List.take_of_length_le (by rw [List.length_map]; exact Nat.le_refl _)
theorem ok_tape (T : Bl mg) (F : Dt K mg "_law_tape" sTape ["_law_script"]) : Df P w K mg base 1 "_law_tape" ["_law_script"] (spTape K) := by
  obtain ⟨f, fd, F, hm, hb⟩ := F.ex
  refine ⟨f, fd, F.ok scTape (fun vs H Q E h => ?_) (fun cdv A outer s H vs Q E hr h => ?_), hm, F.kp, hb⟩
  · obtain ⟨a, ns, rfl, _⟩ := h
    rfl
  · obtain ⟨a, ns, rfl, hS, hl, q⟩ := h
    refine ⟨_, pss_one (ps_ret (pe_lst (pa_cons (pe_callTy call_list_of (by rfl) T.list (by decide +kernel) (pa_cons (pe_slice sl_list (pe_var (i := 0) rfl (.inl rfl)) po_none (po_some pe_int)) pa_nil)) (pa_cons pe_int (pa_cons pe_int (pa_cons pe_int pa_nil)))))), ?_⟩
    refine ⟨.ref a, rfl, 63, rfl, a, ns.map V.int, rfl, hS, fun c hc => ?_⟩
    refine ⟨c, _, rfl, .inl (SqL.of upd_same), fun l hl' => ?_⟩
    refine ⟨by show 4 ≤ sizeLine; decide, fun p hp => q p l _ upd_same ?_ ?_⟩
    · have : l ≠ p := fun z => by rw [← z, upd_same] at hp; cases hp
      rw [upd_ne this, upd_same, cut63 ns hl]
    · intro z
      rw [z, upd_same] at hp
      cases hp
abbrev sLaw : Stmt := topS 51
abbrev nLaw : List Str := ["_law_script", "_law_tape_here", "_law_k", "_law_surface", "_law_most"]
theorem scLaw : FnScope nLaw ["_law_script"] (defScope sLaw) := ⟨rfl, rfl, rfl, by decide +kernel, rfl, by decide +kernel, by decide +kernel⟩
def spLaw (K : PySem.W.Frag) : Sp := fun vs H Q _ => ∃ (a : Addr) (ns : List Int), vs = [.ref a] ∧ SqL K H a (ns.map V.int) ∧ ns.length ≤ 63 ∧ ∀ H', Q (.bl true) H'
theorem ok_law (HG : ∀ S n W, SurfOk S n → WaysOk n W → howMany S W ≤ 720 → Good S W) (T : Bl mg) {f : Addr} {fd : FuncData} (F : Fun K "law" "law" sLaw f fd) (D1 : Df P w K mg base 1 "_law_tape" ["_law_script"] (spTape K)) (D2 : Df P w K mg base 2 "_law_any_row" ["_law_tape_here", "_law_most"] (spAnyRow K)) (D3 : Df P w K mg base 1 "_law_draw" ["_law_tape_here", "_law_many"] (spDraw K))
    (D4 : Df P w K mg base 8 "_law_right" ["_law_surface", "_law_ways"] (spRight K)) (D5 : Df P w K mg base 5 "_law_small" ["_law_tape_here", "_law_many", "_law_surface", "_law_most"] (spSmall K)) : FnOk P w K mg base CX0 9 f fd ["_law_script"] (spLaw K) := by
  refine F.ok scLaw (fun vs H Q E h => ?_) (fun cdv A outer s H vs Q E hr h => ?_)
  · obtain ⟨a, ns, rfl, _⟩ := h
    rfl
  obtain ⟨a, ns, rfl, hS, hl, q⟩ := h
  have nd := scLaw.nd
  obtain ⟨fT, fdT, FT, hmT, hkT, hbT⟩ := D1.ex
  let X := Bx P w K mg base nLaw "law" sLaw f cdv A outer s H E
  have hr1 := hr.mono (show 1 ≤ 8 by decide)
  have hr2 := hr.mono (show 2 ≤ 8 by decide)
  have hr5 := hr.mono (show 5 ≤ 8 by decide)
  have last : ∀ t : Addr × Addr × List Int, S X (some t) [.any, .tape, .any, .any, .any] ((defBody sLaw).drop 1) { nx := fun _ => False, rt := fun r => r = .dat (.bool true) } := by
    intro t
    refine s_cons (s_forM (List.range 3) nI (i_rngN (n := 3) T.range e_int (by decide)) (tg_name 2) (fun k Γ' => ∃ o2 o3 o4, Γ' = [.any, .tape, o2, o3, o4]) ⟨_, _, _, rfl⟩ ?_ ?_)
    · rintro k i hki hi Γ' ⟨o2, o3, o4, rfl⟩
      refine ⟨_, rfl, ?_⟩
      refine s_cons (s_asg 3 (P := fun d => ∃ S n, d = dW S ∧ SurfOk S n) (e_callT D2 1 6 hr2 rfl (a_cons e_int a_nil) ⟨by decide, by decide⟩ fun r ⟨S, n, e, h⟩ => ⟨_, e, S, n, rfl, h⟩) fun d hd => ?_)
      obtain ⟨S, n, rfl, hSu⟩ := hd
      have hn1 := hSu.m1
      have hn6 := hSu.m6
      have hlen := hSu.len
      have tail : ∀ mo : Nat, 1 ≤ mo ∧ mo ≤ 720 → S1 X (some t) [.any, .tape, .dat (nI i), .dat (dW S), .dat (.int (mo : Int))] (match (defBody sLaw).getD 1 (.Pass ⟨0, 0, 0, 0⟩) with | .For _ _ b _ _ => b.getD 3 (.Pass ⟨0, 0, 0, 0⟩) | s => s)
          { nx := fun Γ' => ∃ o2 o3 o4, Γ' = [.any, .tape, o2, o3, o4], ct := fun Γ' => ∃ o2 o3 o4, Γ' = [.any, .tape, o2, o3, o4], bk := fun Γ' => Ly.S X (some t) Γ' ((defBody sLaw).drop 2) { nx := fun _ => False, rt := fun r => r = .dat (.bool true) }, rt := fun r => r = .dat (.bool true) } := by
        intro mo hmo
        refine s_if (P := fun b => b = !true) (t_not (t_val (e_callN2 (R := fun d => d = .bool true) (P := fun d => ∃ W, d = dWs W ∧ WaysOk n W ∧ howMany S W ≤ 720) D4 hr (e_var 3) (e_callT D5 1 (n, S, mo) hr5 rfl (a_cons (e_eq (e_halfN (e_lenW T.len (e_var 3) (by omega))) (congrArg PyData.int (by rw [hlen]; omega))) (a_cons (e_var 3) (a_cons (e_var 4) a_nil))) ⟨hn1, hn6, hlen, hmo.1, hmo.2⟩ ?_) ?_))) (fun h => nomatch h) fun _ => s_nil ⟨_, _, _, rfl⟩
        · rintro r ⟨W, rfl, h⟩
          exact ⟨_, rfl, W, rfl, h⟩
        · rintro d ⟨W, rfl, hW, hh⟩
          refine ⟨(S, W), rfl, ⟨surf_sk hSu hW, by show S.length ≤ 12; omega, strands_le hW, fun c hc => ?_, fun c hc => ?_, HG S n W hSu hW hh⟩, fun r e => ⟨_, e, rfl⟩⟩
          · have := (hSu.mem c).mp hc
            unfold Lt; omega
          · have := (hSu.mem c).mp hc
            show low c - 97 < S.length / 2
            unfold low
            split <;> omega
      refine s_cons (s_asg 4 (P := fun d => d = .int ((36 : Nat) : Int)) e_int fun d hd => ?_)
      subst hd
      refine s_cons (s_if (P := fun _ => True) (t_w (w_and (P := fun _ => True) (t_mono (t_cmp (c_eq (e_var 2) e_int)) fun _ _ => trivial) (fun _ => w_and1 (t_cmp (c_eqI (e_drawC D3 1 (m := 16) hr1 rfl e_int (by decide) (by decide)) (e_i e_int)))) fun _ => trivial)) (fun _ => ?_) fun _ => s_nil (s_one (tail 36 (by decide))))
      refine s_one (s_asg 4 (P := fun d => d = .int ((720 : Nat) : Int)) e_int fun d hd => ?_)
      subst hd
      exact s_one (tail 720 (by decide))
    · rintro Γ' ⟨o2, o3, o4, rfl⟩
      exact s_one (s_ret (P := fun d => d = .bool true) e_bl fun d hd => by rw [hd])
  refine ⟨_, pss_cons (ps_set (i := 1) nd rfl (.inl rfl) (pe_call FT hr1 (by rfl) hmT hkT hbT .nil pass0 (pa_cons (pe_var (i := 0) rfl (.inl rfl)) pa_nil))) pss_w, ?_⟩
  refine ⟨.ref a, rfl, a, ns, rfl, hS, hl, fun p c H2 hp hc hpc => ?_⟩
  let G0 : Hp := fun x => if x = c then some (.lst (ns.map V.int)) else none
  have ex : Ex G0 H2 := fun x o e => by
    by_cases z : x = c
    · have : G0 x = some (.lst (ns.map V.int)) := if_pos z
      rw [this] at e
      rw [z, hc]; exact e
    · have : G0 x = none := if_neg z
      rw [this] at e; cases e
  refine last (p, c, ns) ⟨G0, G0, H2⟩ _ G0 H2 _ ⟨Ex.refl _, Adv.refl ex, fun t e => ?_, fun i k e => ?_, rfl, fun i j k l r n e1 e2 m1 m2 s1 => ?_⟩ ⟨fun _ _ _ _ z => z.elim, fun r v G' H' hr ok a => ?_, fun _ _ _ _ z => z.elim, fun _ _ _ _ z => z.elim⟩
  · cases e
    exact ⟨⟨0, 0, 0, by decide, by decide, by decide, hp⟩, ⟨if_neg hpc, SqL.of (if_pos rfl), hl⟩, by show H2 p ≠ none; rw [hp]; exact fun z => nomatch z⟩
  · match i, e with
    | 0, e => cases e; trivial
    | 1, e => cases e; exact ⟨_, rfl, rfl⟩
    | 2, e => cases e; trivial
    | 3, e => cases e; trivial
    | 4, e => cases e; trivial
    | i + 5, e => simp at e
  · match i, j, e1, e2 with
    | 0, _, e1, _ => cases e1; cases m1
    | 2, _, e1, _ => cases e1; cases m1
    | 3, _, e1, _ => cases e1; cases m1
    | 4, _, e1, _ => cases e1; cases m1
    | i + 5, _, e1, _ => simp at e1
    | 1, 0, _, e2 => cases e2; cases m2
    | 1, 1, _, _ => exact absurd rfl n
    | 1, 2, _, e2 => cases e2; cases m2
    | 1, 3, _, e2 => cases e2; cases m2
    | 1, 4, _, e2 => cases e2; cases m2
    | 1, j + 5, _, e2 => simp at e2
  · subst hr
    have ok' : Dq G' v (.bool true) := ok
    cases ok'
    exact q H'
end
end Ly


set_option Elab.async false
set_option linter.all false
namespace Rw
/-- two lines go along one another for m letters, from 0 on, and no further -/
structure Str (u v : Int → Nat) (m : Int) : Prop where
  pos : 0 < m
  eq : ∀ t, 0 ≤ t → t < m → u t = v t
  beg : u (-1) ≠ v (-1)
  fin : u m ≠ v m
def bg (S : List Nat) (u v : Int → Nat) : Prop := ¬ cycS S (u 0) (bk (u (-1))) (bk (v (-1)))
def nd (S : List Nat) (u v : Int → Nat) (m : Int) : Prop := cycS S (bk (u (m - 1))) (u m) (v m)
/-- they part to unlike sides -/
def Tw (S : List Nat) (u v : Int → Nat) (m : Int) : Prop := cycS S (bk (u (m - 1))) (u m) (v m) ↔ cycS S (u 0) (bk (u (-1))) (bk (v (-1)))
section
variable {S : List Nat} {Th : Nat → Sd → Prop} {P : Nat → Sd → Nat} {u v : Int → Nat} {x y : Int → Sd} {m : Int}
theorem tw_iff : Tw S u v m ↔ ¬ (bg S u v ↔ nd S u v m) := by
  unfold Tw bg nd
  by_cases a : cycS S (bk (u (m - 1))) (u m) (v m) <;> by_cases b : cycS S (u 0) (bk (u (-1))) (bk (v (-1))) <;> simp [a, b]
/-- what stands at each place of the stretch: the begin, the orders in the bands, the end -/
def side (S : List Nat) (P : Nat → Sd → Nat) (u v : Int → Nat) (x y : Int → Sd) (m : Int) (t : Int) : Prop :=
  if t < 0 then bg S u v else if t < m then ordL P u x y t else nd S u v m
theorem cross_side (p : Pts S Th P) (L : Line S Th u x) (M : Line S Th v y) (q : Str u v m) (d : ∀ t, 0 ≤ t → t < m → x t ≠ y t) {t : Int} (h0 : -1 ≤ t) (h1 : t < m) :
    crossL P u v x y t = true ↔ ¬ (side S P u v x y m t ↔ side S P u v x y m (t + 1)) := by
  have hm := q.pos
  by_cases c1 : t = -1
  · subst c1
    have e := cross_beg p L M (t := -1) q.beg (q.eq (-1 + 1) (by omega) (by omega)) (d (-1 + 1) (by omega) (by omega))
    rw [e]
    unfold side
    rw [if_pos (by omega), if_neg (by omega), if_pos (by omega)]
    rfl
  · by_cases c2 : t = m - 1
    · subst c2
      have e := cross_fin p L M (t := m - 1) (q.eq (m - 1) (by omega) (by omega)) (by rw [show m - 1 + 1 = m by omega]; exact q.fin) (d (m - 1) (by omega) (by omega))
      rw [e]
      unfold side
      rw [if_neg (by omega), if_pos (by omega), if_neg (by omega), if_neg (by omega)]
      unfold nd
      rw [show m - 1 + 1 = m by omega]
    · have e := cross_mid p L M (t := t) (q.eq t (by omega) (by omega)) (q.eq (t + 1) (by omega) (by omega)) (d t (by omega) (by omega)) (d (t + 1) (by omega) (by omega))
      rw [e]
      unfold side
      rw [if_neg (by omega), if_pos (by omega), if_neg (by omega), if_pos (by omega)]
/-- a stretch with unlike sides has a crossing -/
theorem cross_ex (p : Pts S Th P) (L : Line S Th u x) (M : Line S Th v y) (q : Str u v m) (d : ∀ t, 0 ≤ t → t < m → x t ≠ y t) (w : Tw S u v m) : ∃ t, -1 ≤ t ∧ t < m ∧ crossL P u v x y t = true := by
  have hm := q.pos
  refine Classical.byContradiction fun no => ?_
  have all : ∀ k : Nat, (k : Int) - 1 ≤ m → (side S P u v x y m (-1) ↔ side S P u v x y m ((k : Int) - 1)) := by
    intro k
    induction k with
    | zero => intro _; exact Iff.rfl
    | succ k ih =>
      intro hk
      have h1 := ih (by omega)
      refine h1.trans ?_
      have h2 := cross_side p L M q d (t := (k : Int) - 1) (by omega) (by omega)
      have h3 : ¬ crossL P u v x y ((k : Int) - 1) = true := fun z => no ⟨_, by omega, by omega, z⟩
      rw [h2] at h3
      have h4 := Classical.not_not.mp h3
      rw [show ((k + 1 : Nat) : Int) - 1 = (k : Int) - 1 + 1 by omega]
      exact h4
  have e := all (m + 1).toNat (by omega)
  rw [show ((m + 1).toNat : Int) - 1 = m by omega] at e
  unfold side at e
  rw [if_pos (by omega), if_neg (by omega), if_neg (by omega)] at e
  exact tw_iff.mp w e
/-- in a drawing whose bands follow the begin on the first part and the end on the rest: at most one crossing, and only where the sides are unlike -/
theorem cross_one (p : Pts S Th P) (L : Line S Th u x) (M : Line S Th v y) (q : Str u v m) (d : ∀ t, 0 ≤ t → t < m → x t ≠ y t) {k : Int} (k0 : 0 ≤ k) (k1 : k ≤ m)
    (hb : ∀ t, 0 ≤ t → t < k → (ordL P u x y t ↔ bg S u v)) (he : ∀ t, k ≤ t → t < m → (ordL P u x y t ↔ nd S u v m)) {t : Int} (h0 : -1 ≤ t) (h1 : t < m) (c : crossL P u v x y t = true) : t + 1 = k ∧ Tw S u v m := by
  have hm := q.pos
  have sb : ∀ t, t < k → (side S P u v x y m t ↔ bg S u v) := fun t ht => by
    unfold side
    by_cases c1 : t < 0
    · rw [if_pos c1]
    · rw [if_neg c1, if_pos (by omega)]; exact hb t (by omega) ht
  have se : ∀ t, k ≤ t → (side S P u v x y m t ↔ nd S u v m) := fun t ht => by
    unfold side
    rw [if_neg (by omega)]
    by_cases c1 : t < m
    · rw [if_pos c1]; exact he t ht c1
    · rw [if_neg c1]
  rw [cross_side p L M q d h0 h1] at c
  by_cases c1 : t + 1 < k
  · exact absurd ((sb t (by omega)).trans (sb (t + 1) c1).symm) c
  · by_cases c2 : k ≤ t
    · exact absurd ((se t c2).trans (se (t + 1) (by omega)).symm) c
    · refine ⟨by omega, tw_iff.mpr fun z => c ?_⟩
      exact (sb t (by omega)).trans (z.trans (se (t + 1) (by omega)).symm)
/-- a stretch seen from another place of the same lines is the same stretch -/
theorem str_shift {u' v' : Int → Nat} {m' t t' : Int} (q : Str u v m) (q' : Str u' v' m') (hu : ∀ s, u (t + s) = u' (t' + s)) (hv : ∀ s, v (t + s) = v' (t' + s)) (h0 : -1 ≤ t) (h1 : t < m) (h0' : -1 ≤ t') (h1' : t' < m') : t = t' ∧ m = m' := by
  have hm := q.pos
  have hm' := q'.pos
  have key : ∀ {u v u' v' : Int → Nat} {m m' t t' : Int}, Str u v m → Str u' v' m' → (∀ s, u (t + s) = u' (t' + s)) → (∀ s, v (t + s) = v' (t' + s)) → -1 ≤ t → t < m → -1 ≤ t' → t' < m' → ¬ t < t' := by
    intro u v u' v' m m' t t' q q' hu hv h0 h1 h0' h1' lt
    refine q.beg ?_
    have e1 := hu (-1 - t)
    have e2 := hv (-1 - t)
    rw [show t + (-1 - t) = -1 by omega] at e1 e2
    rw [e1, e2]
    exact q'.eq _ (by omega) (by omega)
  have e : t = t' := by
    have a := key q q' hu hv h0 h1 h0' h1'
    have b := key q' q (fun s => (hu s).symm) (fun s => (hv s).symm) h0' h1' h0 h1
    omega
  subst e
  refine ⟨rfl, ?_⟩
  have key2 : ∀ {u v u' v' : Int → Nat} {m m' : Int}, Str u v m → Str u' v' m' → (∀ s, u (t + s) = u' (t + s)) → (∀ s, v (t + s) = v' (t + s)) → ¬ m < m' := by
    intro u v u' v' m m' q q' hu hv lt
    refine q.fin ?_
    have e1 := hu (m - t)
    have e2 := hv (m - t)
    rw [show t + (m - t) = m by omega] at e1 e2
    rw [e1, e2]
    exact q'.eq _ (by have := q.pos; omega) lt
  have a := key2 q q' hu hv
  have b := key2 q' q (fun s => (hu s).symm) fun s => (hv s).symm
  omega
/-- the same stretch gone the other way, the lines told in the other order -/
theorem str_rev (L : ∀ t, Lt (u t)) (M : ∀ t, Lt (v t)) (q : Str u v m) : Str (fun r => bk (v (m - 1 - r))) (fun r => bk (u (m - 1 - r))) m := by
  have hm := q.pos
  refine ⟨q.pos, fun t h0 h1 => ?_, fun e => ?_, fun e => ?_⟩
  · show bk (v (m - 1 - t)) = bk (u (m - 1 - t))
    rw [q.eq (m - 1 - t) (by omega) (by omega)]
  · have e1 := bk_inj (M _) (L _) e
    rw [show m - 1 - -1 = m by omega] at e1
    exact q.fin e1.symm
  · have e1 := bk_inj (M _) (L _) e
    rw [show m - 1 - m = -1 by omega] at e1
    exact q.beg e1.symm
end
end Rw


set_option Elab.async false
set_option linter.all false
namespace Rw
/-! ### going round, by place -/
def rot (S : List Nat) (k : Nat) : List Nat := S.drop k ++ S.take k
theorem rot_idx {S : List Nat} {k o : Nat} (hn : S.Nodup) (hk : k ≤ S.length) (ho : o ∈ S) : (rot S k).idxOf o = if k ≤ S.idxOf o then S.idxOf o - k else S.idxOf o + (S.length - k) := by
  have e : S.idxOf o = (S.take k ++ S.drop k).idxOf o := by rw [List.take_append_drop]
  have hn2 : (S.take k ++ S.drop k).Nodup := by rw [List.take_append_drop]; exact hn
  have lk : (S.take k).length = k := by rw [List.length_take]; omega
  unfold rot
  rw [List.idxOf_append]
  rw [List.idxOf_append, lk] at e
  by_cases h : o ∈ S.take k
  · have h2 : o ∉ S.drop k := fun z => (List.nodup_append.mp hn2).2.2 o h o z rfl
    rw [if_pos h] at e
    have h3 := List.idxOf_lt_length_iff.mpr h
    rw [lk] at h3
    rw [if_neg h2, if_neg (by omega), e, List.length_drop]
  · have h2 : o ∈ S.drop k := by
      have := ho
      rw [← List.take_append_drop k S] at this
      exact (List.mem_append.mp this).resolve_left h
    rw [if_neg h] at e
    rw [if_pos h2, if_pos (by omega), e]
    omega
theorem idx_lt {S : List Nat} {o : Nat} (h : o ∈ S) : S.idxOf o < S.length := List.idxOf_lt_length_iff.mpr h
theorem cf_cyc {S : List Nat} {b o r : Nat} (hn : S.Nodup) (hb : b ∈ S) (ho : o ∈ S) (hr : r ∈ S) (h1 : b ≠ o) (h2 : b ≠ r) (h3 : o ≠ r) : cf S b o r = true ↔ cycS S b o r := by
  have lb := idx_lt hb
  have lo := idx_lt ho
  have lr := idx_lt hr
  have p1 := pos_ne hb h1
  have p2 := pos_ne hb h2
  have p3 := pos_ne ho h3
  have e1 := rot_idx hn (Nat.le_of_lt lb) ho
  have e2 := rot_idx hn (Nat.le_of_lt lb) hr
  have e : cf S b o r = true ↔ (rot S (S.idxOf b)).idxOf o < (rot S (S.idxOf b)).idxOf r := decide_eq_true_iff
  rw [e, e1, e2]
  unfold cycS cyc
  split <;> split <;> omega
theorem cf_trans {S : List Nat} {b x y z : Nat} (h1 : cf S b x y = true) (h2 : cf S b y z = true) : cf S b x z = true :=
  decide_eq_true (Nat.lt_trans (of_decide_eq_true h1) (of_decide_eq_true h2))
theorem cf_flip {S : List Nat} {b x y : Nat} (hn : S.Nodup) (hb : b ∈ S) (hx : x ∈ S) (hy : y ∈ S) (h : x ≠ y) : cf S b x y = !cf S b y x := by
  have lb := idx_lt hb
  have lx := idx_lt hx
  have ly := idx_lt hy
  have p := pos_ne hx h
  have e1 := rot_idx hn (Nat.le_of_lt lb) hx
  have e2 := rot_idx hn (Nat.le_of_lt lb) hy
  have ne : (rot S (S.idxOf b)).idxOf x ≠ (rot S (S.idxOf b)).idxOf y := by
    rw [e1, e2]
    split <;> split <;> omega
  have a1 : cf S b x y = decide ((rot S (S.idxOf b)).idxOf x < (rot S (S.idxOf b)).idxOf y) := rfl
  have a2 : cf S b y x = decide ((rot S (S.idxOf b)).idxOf y < (rot S (S.idxOf b)).idxOf x) := rfl
  rw [a1, a2]
  by_cases q : (rot S (S.idxOf b)).idxOf x < (rot S (S.idxOf b)).idxOf y
  · rw [decide_eq_true q, decide_eq_false (by omega)]; rfl
  · rw [decide_eq_false q, decide_eq_true (by omega)]; rfl
/-! ### strands and lines -/
theorem wyAt {W : Ws} {i : Nat} (h : i < W.length) : wy W i ∈ W := by
  unfold wy
  rw [List.getD_eq_getElem?_getD, List.getElem?_eq_getElem h]
  exact List.getElem_mem h
theorem latMv (W : Ws) (s : Sd) (j k : Int) : lat W (mv W s j) k = lat W s (j + k) := by
  unfold lat mv
  show atW (wy W s.1) (((((s.2 : Int) + j) % ((wy W s.1).length : Int)).toNat : Int) + k) = atW (wy W s.1) ((s.2 : Int) + (j + k))
  by_cases h : (wy W s.1).length = 0
  · have e : wy W s.1 = [] := List.length_eq_zero_iff.mp h
    rw [e]
    unfold atW
    simp
  · rw [Int.toNat_of_nonneg (Int.emod_nonneg _ (by omega))]
    exact atW_mod _ (by rw [← Int.add_assoc, Int.emod_add_emod])
theorem mvMv (W : Ws) {s : Sd} (h : isS W s) (j k : Int) : mv W (mv W s j) k = mv W s (j + k) := by
  unfold mv
  have hp : 0 < (wy W s.1).length := Nat.lt_of_le_of_lt (Nat.zero_le _) h.2
  refine Prod.ext rfl ?_
  show (((((((s.2 : Int) + j) % ((wy W s.1).length : Int)).toNat : Int) + k) % ((wy W s.1).length : Int))).toNat = ((((s.2 : Int) + (j + k)) % ((wy W s.1).length : Int))).toNat
  rw [Int.toNat_of_nonneg (Int.emod_nonneg _ (by omega)), Int.emod_add_emod, Int.add_assoc]
theorem mv0 (W : Ws) {s : Sd} (h : isS W s) : mv W s 0 = s := by
  unfold mv
  refine Prod.ext rfl ?_
  show (((s.2 : Int) + 0) % ((wy W s.1).length : Int)).toNat = s.2
  rw [Int.add_zero, Int.emod_eq_of_lt (by omega) (by have := h.2; omega)]
  rfl
theorem mvS {W : Ws} {s : Sd} (h : isS W s) (k : Int) : isS W (mv W s k) :=
  ⟨h.1, ix_lt (fun z => by have := h.2; rw [z] at this; exact Nat.not_lt_zero _ this) _⟩
theorem mv_back {W : Ws} {s r : Sd} (h : isS W s) {k : Int} (e : mv W s k = r) : s = mv W r (-k) := by
  rw [← e, mvMv W h, show k + -k = 0 by omega, mv0 W h]
theorem mv_inj {W : Ws} {s r : Sd} (h : isS W s) (h' : isS W r) {k : Int} (e : mv W s k = mv W r k) : s = r := by
  rw [mv_back h e, mvMv W h', show k + -k = 0 by omega, mv0 W h']
/-- what the law has drawn -/
structure Cx (S : List Nat) (W : Ws) (m : Nat) : Prop where
  hS : SurfOk S m
  hW : WaysOk m W
section
variable {S : List Nat} {W : Ws} {m : Nat}
theorem Cx.way (c : Cx S W m) {s : Sd} (h : isS W s) : WayOk m (wy W s.1) := c.hW.ok _ (wyAt h.1)
theorem Cx.lt (c : Cx S W m) {s : Sd} (h : isS W s) (t : Int) : Lt (lat W s t) := way_lt (c.way h) c.hS.m6 _
theorem Cx.mem (c : Cx S W m) {s : Sd} (h : isS W s) (t : Int) : lat W s t ∈ S := (c.hS.mem _).mpr ((c.way h).lt _ (atW_mem (c.way h).ne _))
theorem Cx.memB (c : Cx S W m) {s : Sd} (h : isS W s) (t : Int) : bk (lat W s t) ∈ S := by
  have := (c.way h).lt _ (atW_mem (c.way h).ne ((s.2 : Int) + t))
  have h6 := c.hS.m6
  refine (c.hS.mem _).mpr ?_
  unfold lat bk
  split <;> omega
theorem Cx.red (c : Cx S W m) {s : Sd} (h : isS W s) (t : Int) : lat W s (t + 1) ≠ bk (lat W s t) := by
  have := (c.way h).red ((s.2 : Int) + t)
  unfold lat
  rw [← Int.add_assoc]
  exact this
theorem low_bk {c : Nat} (h : Lt c) : low (bk c) = low c := by
  unfold Lt at h
  unfold low bk
  split <;> split <;> omega
/-- strand s goes through the band of e -/
def ThW (S : List Nat) (W : Ws) (e : Nat) (s : Sd) : Prop := e ∈ S ∧ isS W s ∧ low (lat W s 0) = low e
/-- the way from x on, along and back -/
abbrev fwd (W : Ws) (x : Sd) : Int → Nat := fun t => lat W x t
abbrev fwdS (W : Ws) (x : Sd) : Int → Sd := fun t => mv W x t
abbrev bwd (W : Ws) (y : Sd) : Int → Nat := fun t => bk (lat W y (-t))
abbrev bwdS (W : Ws) (y : Sd) : Int → Sd := fun t => mv W y (-t)
theorem Cx.line (c : Cx S W m) {x : Sd} (h : isS W x) : Line S (ThW S W) (fwd W x) (fwdS W x) where
  lt := c.lt h
  mem := c.mem h
  memB := c.memB h
  th := fun t => ⟨c.mem h t, mvS h t, by rw [latMv, Int.add_zero]⟩
  thB := fun t => ⟨c.memB h t, mvS h t, by rw [latMv, Int.add_zero, low_bk (c.lt h t)]⟩
  red := c.red h
theorem Cx.lineB (c : Cx S W m) {y : Sd} (h : isS W y) : Line S (ThW S W) (bwd W y) (bwdS W y) where
  lt := fun t => bk_lt (c.lt h _)
  mem := fun t => c.memB h _
  memB := fun t => by
    show bk (bk _) ∈ S
    rw [bk_bk (c.lt h _)]; exact c.mem h _
  th := fun t => ⟨c.memB h _, mvS h _, by rw [latMv, Int.add_zero, low_bk (c.lt h _)]⟩
  thB := fun t => ⟨by show bk (bk _) ∈ S; rw [bk_bk (c.lt h _)]; exact c.mem h _, mvS h _, by rw [latMv, Int.add_zero, bk_bk (c.lt h _)]⟩
  red := fun t => by
    show bk (lat W y (-(t + 1))) ≠ bk (bk (lat W y (-t)))
    rw [bk_bk (c.lt h _)]
    have := c.red h (-(t + 1))
    rw [show -(t + 1) + 1 = -t by omega] at this
    exact this.symm
/-! periods: what agrees on a long stretch agrees for ever -/
theorem per_lat (W : Ws) (x : Sd) (t : Int) : lat W x (t + ((wy W x.1).length : Int)) = lat W x t := by
  unfold lat
  rw [← Int.add_assoc, atW_per]
theorem per_all {f : Int → Nat} {p : Int} (h : ∀ t, f (t + p) = f t) (k : Int) : ∀ t, f (t + p * k) = f t := by
  have up : ∀ (j : Nat) (t : Int), f (t + p * (j : Int)) = f t := by
    intro j
    induction j with
    | zero => intro t; rw [show t + p * ((0 : Nat) : Int) = t by simp]
    | succ j ih =>
      intro t
      rw [show t + p * ((j + 1 : Nat) : Int) = (t + p * (j : Int)) + p by rw [Int.natCast_add, Int.mul_add]; omega, h, ih]
  intro t
  rcases Int.le_total 0 k with hk | hk
  · have := up k.toNat t
    rwa [Int.toNat_of_nonneg hk] at this
  · have := up (-k).toNat (t + p * k)
    rw [Int.toNat_of_nonneg (by omega), show t + p * k + p * -k = t by rw [Int.mul_neg]; omega] at this
    exact this.symm
theorem ever {f g : Int → Nat} {p q : Int} (hp : 0 < p) (hq : 0 < q) (hf : ∀ t, f (t + p) = f t) (hg : ∀ t, g (t + q) = g t) {a : Int} (h : ∀ t, a ≤ t → t < a + p + q → f t = g t) : ∀ t, f t = g t := by
  have gp : ∀ t, g (t + p) = g t := by
    intro t
    have hr0 := Int.emod_nonneg (t - a) (b := q) (by omega)
    have hr1 := Int.emod_lt_of_pos (t - a) hq
    have e : t = a + (t - a) % q + q * ((t - a) / q) := by have := Int.emod_add_mul_ediv (t - a) q; omega
    generalize (t - a) % q = r at *
    generalize (t - a) / q = k at *
    rw [e, show a + r + q * k + p = (a + r + p) + q * k by omega, per_all hg, per_all hg, ← h (a + r + p) (by omega) (by omega), ← h (a + r) (by omega) (by omega), hf]
  intro t
  have hr0 := Int.emod_nonneg (t - a) (b := p) (by omega)
  have hr1 := Int.emod_lt_of_pos (t - a) hp
  have e : t = a + (t - a) % p + p * ((t - a) / p) := by have := Int.emod_add_mul_ediv (t - a) p; omega
  generalize (t - a) % p = r at *
  generalize (t - a) / p = k at *
  rw [e, per_all hf, per_all gp]
  exact h _ (by omega) (by omega)
theorem isS_pos {x : Sd} (h : isS W x) : 0 < ((wy W x.1).length : Int) := by have := h.2; omega
theorem ever_f {x y : Sd} (hx : isS W x) (hy : isS W y) {a : Int} (h : ∀ t, a ≤ t → t < a + (room W x y : Nat) → fwd W x t = fwd W y t) : ∀ t, fwd W x t = fwd W y t :=
  ever (isS_pos hx) (isS_pos hy) (per_lat W x) (per_lat W y) (a := a) fun t h1 h2 => h t h1 (by unfold room; omega)
theorem per_bwd (W : Ws) (y : Sd) (t : Int) : bwd W y (t + ((wy W y.1).length : Int)) = bwd W y t := by
  show bk _ = bk _
  rw [show -t = -(t + ((wy W y.1).length : Int)) + ((wy W y.1).length : Int) by omega, per_lat]
theorem ever_b {x y : Sd} (hx : isS W x) (hy : isS W y) {a : Int} (h : ∀ t, a ≤ t → t < a + (room W x y : Nat) → fwd W x t = bwd W y t) : ∀ t, fwd W x t = bwd W y t :=
  ever (isS_pos hx) (isS_pos hy) (per_lat W x) (per_bwd W y) (a := a) fun t h1 h2 => h t h1 (by unfold room; omega)
/-- distinct strands of one way don't agree for ever -/
theorem per_gcd {f : Int → Nat} : ∀ (a b : Nat), (∀ t, f (t + (a : Int)) = f t) → (∀ t, f (t + (b : Int)) = f t) → ∀ t, f (t + ((Nat.gcd a b : Nat) : Int)) = f t := by
  intro a b
  induction a, b using Nat.gcd.induction with
  | H0 n => intro _ h; rw [Nat.gcd_zero_left]; exact h
  | H1 m n hm ih =>
    intro h1 h2
    rw [Nat.gcd_rec]
    refine ih (fun t => ?_) h1
    have e : ((n % m : Nat) : Int) = (n : Int) + (m : Int) * (-((n / m : Nat) : Int)) := by
      have := Nat.mod_add_div n m
      have e2 : ((n % m : Nat) : Int) + (m : Int) * ((n / m : Nat) : Int) = (n : Int) := by rw [← Int.natCast_mul, ← Int.natCast_add, this]
      rw [Int.mul_neg]; omega
    rw [e, ← Int.add_assoc, per_all h1, h2]
theorem Cx.same_way (c : Cx S W m) {x y : Sd} (hx : isS W x) (hy : isS W y) (hw : x.1 = y.1) (h : ∀ t, fwd W x t = fwd W y t) : x = y := by
  refine Classical.byContradiction fun ne => ?_
  have h2 : x.2 ≠ y.2 := fun z => ne (Prod.ext hw z)
  have key : ∀ {x y : Sd}, isS W x → isS W y → x.1 = y.1 → (∀ t, fwd W x t = fwd W y t) → x.2 < y.2 → False := by
    intro x y hx hy hw h lt
    have hk := c.way hx
    have hlen : y.2 < (wy W x.1).length := by rw [hw]; exact hy.2
    have p1 : ∀ t, atW (wy W x.1) (t + ((y.2 - x.2 : Nat) : Int)) = atW (wy W x.1) t := fun t => by
      have := h (t - (x.2 : Int))
      unfold fwd lat at this
      rw [← hw] at this
      rw [show (x.2 : Int) + (t - (x.2 : Int)) = t by omega, show (y.2 : Int) + (t - (x.2 : Int)) = t + ((y.2 - x.2 : Nat) : Int) by omega] at this
      exact this.symm
    have p2 := per_gcd (f := atW (wy W x.1)) (y.2 - x.2) (wy W x.1).length p1 (atW_per _)
    have g0 : 0 < Nat.gcd (y.2 - x.2) (wy W x.1).length := Nat.gcd_pos_of_pos_left _ (by omega)
    have g1 : Nat.gcd (y.2 - x.2) (wy W x.1).length ≤ y.2 - x.2 := Nat.gcd_le_left _ (by omega)
    obtain ⟨t, ht⟩ := hk.prim _ g0 (by omega) (Nat.gcd_dvd_right ..)
    exact ht (p2 t)
  rcases Nat.lt_or_gt_of_ne h2 with l | l
  · exact key hx hy hw h l
  · exact key hy hx hw.symm (fun t => (h t).symm) l
/-- a way never runs against itself for ever -/
theorem Cx.not_back (c : Cx S W m) {x y : Sd} (hx : isS W x) (hw : x.1 = y.1) (h : ∀ t, fwd W x t = bwd W y t) : False := by
  have hk := c.way hx
  have h' : ∀ z : Int, atW (wy W x.1) z = bk (atW (wy W x.1) ((x.2 : Int) + (y.2 : Int) - z)) := fun z => by
    have := h (z - (x.2 : Int))
    unfold fwd bwd lat at this
    rw [← hw] at this
    rw [show (x.2 : Int) + (z - (x.2 : Int)) = z by omega, show (y.2 : Int) + -(z - (x.2 : Int)) = (x.2 : Int) + (y.2 : Int) - z by omega] at this
    exact this
  have hl : ∀ z : Int, Lt (atW (wy W x.1) z) := fun z => way_lt hk c.hS.m6 z
  generalize (x.2 : Int) + (y.2 : Int) = q at h'
  rcases (by omega : q % 2 = 0 ∨ q % 2 = 1) with e | e
  · have := h' (q / 2)
    rw [show q - q / 2 = q / 2 by omega] at this
    exact bk_ne (hl _) this.symm
  · have := h' (q / 2 + 1)
    rw [show q - (q / 2 + 1) = q / 2 by omega] at this
    exact hk.red _ this
end
end Rw


set_option Elab.async false
set_option linter.all false
namespace Rw
theorem snocInd {α : Type} {P : List α → Prop} (h0 : P []) (h1 : ∀ xs x, P xs → P (xs ++ [x])) (xs : List α) : P xs := by
  have : ∀ n (xs : List α), xs.length = n → P xs := by
    intro n
    induction n with
    | zero => intro xs h; rw [List.length_eq_zero_iff.mp h]; exact h0
    | succ n ih =>
      intro xs h
      have hne : xs ≠ [] := fun e => by rw [e] at h; cases h
      rw [← List.dropLast_concat_getLast hne]
      exact h1 _ _ (ih _ (by rw [List.length_dropLast]; omega))
  exact this xs.length xs rfl
theorem eo_snoc (xs : List Sd) (x : Sd) : everyOrder (xs ++ [x]) = (everyOrder xs).flatMap fun row => (List.range (row.length + 1)).map fun k => row.take k ++ [x] ++ row.drop k := by
  unfold everyOrder
  rw [List.foldl_append]
  rfl
theorem insPerm (acc : List Sd) (n : Nat) (c : Sd) : (acc.take n ++ [c] ++ acc.drop n).Perm (c :: acc) := by
  rw [List.append_assoc]
  have := List.perm_middle (a := c) (l₁ := acc.take n) (l₂ := acc.drop n)
  rw [List.take_append_drop] at this
  exact this
theorem eo_perm : ∀ xs : List Sd, ∀ o ∈ everyOrder xs, o.Perm xs := by
  refine snocInd ?_ fun xs x ih => ?_
  · intro o ho
    have : o = [] := by simpa [everyOrder] using ho
    rw [this]
  · intro o ho
    rw [eo_snoc] at ho
    obtain ⟨row, h1, h2⟩ := List.mem_flatMap.mp ho
    obtain ⟨k, hk, rfl⟩ := List.mem_map.mp h2
    exact (insPerm row k x).trans (((ih row h1).cons x).trans (List.perm_append_comm (l₁ := [x])))
theorem eo_length : ∀ xs : List Sd, (everyOrder xs).length = fact xs.length := by
  have fm : ∀ {c : Nat} {f : List Sd → List (List Sd)} {l : List (List Sd)}, (∀ a ∈ l, (f a).length = c) → (l.flatMap f).length = l.length * c := by
    intro c f l
    induction l with
    | nil => intro _; rw [List.flatMap_nil, List.length_nil, Nat.zero_mul]
    | cons a l ih =>
      intro h
      rw [List.flatMap_cons, List.length_append, h a List.mem_cons_self, ih fun b hb => h b (List.mem_cons_of_mem _ hb), List.length_cons, Nat.add_mul]
      omega
  refine snocInd rfl fun xs x ih => ?_
  rw [eo_snoc, fm (c := xs.length + 1) (fun r hr => by rw [List.length_map, List.length_range, (eo_perm xs r hr).length_eq]), ih, List.length_append, List.length_singleton]
  rfl
def EDm (W : Ws) (n : Nat) : List Dw := (List.range n).foldl (fun found n => found.flatMap fun rows => (everyOrder (throughN W n)).map fun o => rows ++ [o]) [[]]
theorem edm_succ (W : Ws) (n : Nat) : EDm W (n + 1) = (EDm W n).flatMap fun rows => (everyOrder (throughN W n)).map fun o => rows ++ [o] := by
  unfold EDm
  rw [List.range_succ, List.foldl_append]
  rfl
theorem edm_row (W : Ws) : ∀ n, ∀ D ∈ EDm W n, D.length = n ∧ ∀ k < n, (rowAt D k).Perm (throughN W k)
  | 0, D, h => by
    have : D = [] := by simpa [EDm] using h
    rw [this]
    exact ⟨rfl, fun k hk => absurd hk (Nat.not_lt_zero k)⟩
  | n + 1, D, h => by
    rw [edm_succ] at h
    obtain ⟨r, h1, h2⟩ := List.mem_flatMap.mp h
    obtain ⟨o, ho, rfl⟩ := List.mem_map.mp h2
    obtain ⟨hl, hr⟩ := edm_row W n r h1
    refine ⟨by rw [List.length_append, hl, List.length_singleton], fun k hk => ?_⟩
    unfold rowAt
    by_cases e : k = n
    · subst e
      rw [List.getD_eq_getElem?_getD, List.getElem?_append_right (by omega), hl, Nat.sub_self]
      exact eo_perm _ o ho
    · have := hr k (by omega)
      unfold rowAt at this
      rw [List.getD_eq_getElem?_getD, List.getElem?_append_left (by omega), ← List.getD_eq_getElem?_getD]
      exact this
theorem edm_length (W : Ws) (n : Nat) : (EDm W (n + 1)).length = (EDm W n).length * fact (throughN W n).length := by
  have fm : ∀ {c : Nat} {f : Dw → List Dw} {l : List Dw}, (∀ a ∈ l, (f a).length = c) → (l.flatMap f).length = l.length * c := by
    intro c f l
    induction l with
    | nil => intro _; rw [List.flatMap_nil, List.length_nil, Nat.zero_mul]
    | cons a l ih =>
      intro h
      rw [List.flatMap_cons, List.length_append, h a List.mem_cons_self, ih fun b hb => h b (List.mem_cons_of_mem _ hb), List.length_cons, Nat.add_mul]
      omega
  rw [edm_succ, fm fun r _ => by rw [List.length_map, eo_length]]
/-! the points of a drawing -/
def bRow (D : Dw) (e : Nat) : List Sd := if 97 ≤ e then rowAt D (low e - 97) else (rowAt D (low e - 97)).reverse
theorem spots_app (S T : List Nat) (D : Dw) : spotsM (S ++ T) D = spotsM S D ++ spotsM T D := by
  unfold spotsM
  rw [List.flatMap_append]
theorem spots_cons (e : Nat) (T : List Nat) (D : Dw) : spotsM (e :: T) D = (bRow D e).map (fun s => (e, s)) ++ spotsM T D := by
  unfold spotsM
  rw [List.flatMap_cons]
  rfl
theorem bRow_mem {D : Dw} {e : Nat} {s : Sd} : s ∈ bRow D e ↔ s ∈ rowAt D (low e - 97) := by
  unfold bRow
  split
  · exact Iff.rfl
  · exact List.mem_reverse
theorem spots_mem {S : List Nat} {D : Dw} {e : Nat} {s : Sd} : (e, s) ∈ spotsM S D ↔ e ∈ S ∧ s ∈ rowAt D (low e - 97) := by
  have : spotsM S D = S.flatMap fun e => (bRow D e).map fun s => (e, s) := rfl
  rw [this, List.mem_flatMap]
  constructor
  · rintro ⟨e', he', h⟩
    obtain ⟨s', hs', h⟩ := List.mem_map.mp h
    cases h
    exact ⟨he', bRow_mem.mp hs'⟩
  · rintro ⟨he, hs⟩
    exact ⟨e, he, List.mem_map.mpr ⟨s, bRow_mem.mpr hs, rfl⟩⟩
def PD (S : List Nat) (D : Dw) (e : Nat) (s : Sd) : Nat := (spotsM S D).idxOf (e, s)
theorem map_idx (e : Nat) (s : Sd) : ∀ l : List Sd, (l.map fun s => (e, s)).idxOf (e, s) = l.idxOf s
  | [] => rfl
  | x :: l => by
    rw [List.map_cons, List.idxOf_cons, List.idxOf_cons, map_idx e s l]
    have : ((e, x) == (e, s)) = (x == s) := by
      show ((e == e) && (x == s)) = (x == s)
      rw [beq_self_eq_true, Bool.true_and]
    rw [this]
/-- within a block -/
theorem PD_in {S : List Nat} {D : Dw} {e : Nat} {s : Sd} (hn : S.Nodup) (he : e ∈ S) (hs : s ∈ rowAt D (low e - 97)) : ∃ k, ∀ r ∈ rowAt D (low e - 97), PD S D e r = k + (bRow D e).idxOf r := by
  obtain ⟨S1, S2, rfl⟩ := List.append_of_mem he
  have n1 : e ∉ S1 := fun z => (List.nodup_append.mp hn).2.2 e z e List.mem_cons_self rfl
  refine ⟨(spotsM S1 D).length, fun r hr => ?_⟩
  unfold PD
  rw [spots_app, List.idxOf_append, if_neg fun z => n1 (spots_mem.mp z).1, spots_cons, List.idxOf_append, if_pos (List.mem_map.mpr ⟨r, bRow_mem.mpr hr, rfl⟩), map_idx]
  omega
theorem PD_blk {S : List Nat} {D : Dw} {e e' : Nat} {s s' : Sd} (h : S.idxOf e < S.idxOf e') (he : e ∈ S) (he' : e' ∈ S) (hs : s ∈ rowAt D (low e - 97)) (hs' : s' ∈ rowAt D (low e' - 97)) : PD S D e s < PD S D e' s' := by
  have hsp : S = S.take (S.idxOf e') ++ S.drop (S.idxOf e') := (List.take_append_drop ..).symm
  have hl := idx_lt he'
  have m1 : e ∈ S.take (S.idxOf e') := by
    have : (S.take (S.idxOf e'))[S.idxOf e]? = some e := by
      rw [List.getElem?_take, if_pos h, List.getElem?_eq_getElem (idx_lt he), List.getElem_idxOf]
    exact List.mem_of_getElem? this
  have m2 : e' ∉ S.take (S.idxOf e') := fun z => by
    have h1 := List.idxOf_lt_length_iff.mpr z
    rw [List.length_take] at h1
    have h2 : S.idxOf e' = (S.take (S.idxOf e') ++ S.drop (S.idxOf e')).idxOf e' := by rw [List.take_append_drop]
    rw [List.idxOf_append, if_pos z] at h2
    omega
  have h3 : PD S D e s < (spotsM (S.take (S.idxOf e')) D).length := by
    have : (e, s) ∈ spotsM (S.take (S.idxOf e')) D := spots_mem.mpr ⟨m1, hs⟩
    have e3 : PD S D e s = (spotsM (S.take (S.idxOf e') ++ S.drop (S.idxOf e')) D).idxOf (e, s) := by rw [List.take_append_drop]; rfl
    rw [e3, spots_app, List.idxOf_append, if_pos this]
    exact List.idxOf_lt_length_iff.mpr this
  have h4 : (spotsM (S.take (S.idxOf e')) D).length ≤ PD S D e' s' := by
    have : (e', s') ∉ spotsM (S.take (S.idxOf e')) D := fun z => m2 (spots_mem.mp z).1
    have e3 : PD S D e' s' = (spotsM (S.take (S.idxOf e') ++ S.drop (S.idxOf e')) D).idxOf (e', s') := by rw [List.take_append_drop]; rfl
    rw [e3, spots_app, List.idxOf_append, if_neg this]
    omega
  omega
theorem rev_idx {l : List Sd} {s : Sd} (hn : l.Nodup) (hs : s ∈ l) : l.reverse.idxOf s + l.idxOf s + 1 = l.length := by
  have h1 := List.idxOf_lt_length_iff.mpr hs
  have h2 : l.reverse[l.length - 1 - l.idxOf s]? = some s := by
    rw [List.getElem?_reverse (by omega), show l.length - 1 - (l.length - 1 - l.idxOf s) = l.idxOf s by omega, List.getElem?_eq_getElem h1, List.getElem_idxOf]
  have h3 := List.idxOf_lt_length_iff.mpr (List.mem_reverse.mpr hs)
  have h4 : l.reverse[l.reverse.idxOf s]? = some s := by rw [List.getElem?_eq_getElem h3, List.getElem_idxOf]
  have h5 : l.reverse.Nodup := (List.reverse_perm l).nodup_iff.mpr hn
  have h6 := (List.getElem?_inj (by exact h3) h5).mp (h4.trans h2.symm)
  rw [List.length_reverse] at h3
  omega
/-- a drawing: its rows are orders of the strands -/
structure Dr (S : List Nat) (W : Ws) (m : Nat) (D : Dw) : Prop where
  row : ∀ k < m, (rowAt D k).Perm (throughN W k)
section
variable {S : List Nat} {W : Ws} {m : Nat} {D : Dw}
theorem mem_strands {s : Sd} : s ∈ strandsOf W ↔ isS W s := by
  unfold strandsOf
  rw [List.mem_flatMap]
  constructor
  · rintro ⟨i, hi, h⟩
    obtain ⟨p, hp, rfl⟩ := List.mem_map.mp h
    exact ⟨List.mem_range.mp hi, List.mem_range.mp hp⟩
  · rintro ⟨h1, h2⟩
    exact ⟨s.1, List.mem_range.mpr h1, List.mem_map.mpr ⟨s.2, List.mem_range.mpr h2, rfl⟩⟩
theorem mem_through {n : Nat} {s : Sd} : s ∈ throughN W n ↔ isS W s ∧ low (lat W s 0) = 97 + n := by
  unfold throughN
  rw [List.mem_filter, mem_strands, decide_eq_true_iff]
theorem nodup_strands (W : Ws) : (strandsOf W).Nodup := by
  unfold strandsOf
  have : ∀ n, ((List.range n).flatMap fun i => (List.range (wy W i).length).map fun p => (i, p)).Nodup := by
    intro n
    induction n with
    | zero => exact List.nodup_nil
    | succ n ih =>
      rw [List.range_succ, List.flatMap_append, List.flatMap_singleton, List.nodup_append]
      refine ⟨ih, ?_, fun a ha b hb => ?_⟩
      · refine List.Pairwise.map _ (fun a b h => ?_) List.nodup_range
        intro z
        exact h (congrArg Prod.snd z)
      · obtain ⟨i, hi, ha⟩ := List.mem_flatMap.mp ha
        obtain ⟨p, _, rfl⟩ := List.mem_map.mp ha
        obtain ⟨q, _, rfl⟩ := List.mem_map.mp hb
        intro z
        have := congrArg Prod.fst z
        have := List.mem_range.mp hi
        simp at *
        omega
  exact this W.length
theorem nodup_through (W : Ws) (n : Nat) : (throughN W n).Nodup := (nodup_strands W).filter _
theorem Cx.low_in (c : Cx S W m) {e : Nat} (he : e ∈ S) : 97 ≤ low e ∧ low e - 97 < m := by
  have := (c.hS.mem e).mp he
  have h6 := c.hS.m6
  unfold low
  split <;> omega
theorem Dr.mem (d : Dr S W m D) (c : Cx S W m) {e : Nat} {s : Sd} (h : ThW S W e s) : s ∈ rowAt D (low e - 97) := by
  have hl := c.low_in h.1
  exact (d.row _ hl.2).mem_iff.mpr (mem_through.mpr ⟨h.2.1, by rw [h.2.2]; omega⟩)
theorem Dr.nodup (d : Dr S W m D) {k : Nat} (hk : k < m) : (rowAt D k).Nodup := (d.row k hk).nodup_iff.mpr (nodup_through W k)
theorem PD_small (d : Dr S W m D) (c : Cx S W m) {e : Nat} {s s' : Sd} (h : ThW S W e s) (h' : ThW S W e s') (he : 97 ≤ e) : PD S D e s < PD S D e s' ↔ (rowAt D (low e - 97)).idxOf s < (rowAt D (low e - 97)).idxOf s' := by
  obtain ⟨k, hk⟩ := PD_in (S := S) c.hS.nd h.1 (d.mem c h)
  rw [hk s (d.mem c h), hk s' (d.mem c h')]
  unfold bRow
  rw [if_pos he]
  omega
theorem PD_big (d : Dr S W m D) (c : Cx S W m) {e : Nat} {s s' : Sd} (h : ThW S W e s) (h' : ThW S W e s') (he : ¬ 97 ≤ e) : PD S D e s < PD S D e s' ↔ (rowAt D (low e - 97)).idxOf s' < (rowAt D (low e - 97)).idxOf s := by
  obtain ⟨k, hk⟩ := PD_in (S := S) c.hS.nd h.1 (d.mem c h)
  have hl := c.low_in h.1
  rw [hk s (d.mem c h), hk s' (d.mem c h')]
  unfold bRow
  rw [if_neg he]
  have r1 := rev_idx (d.nodup hl.2) (d.mem c h)
  have r2 := rev_idx (d.nodup hl.2) (d.mem c h')
  omega
theorem Cx.letter (c : Cx S W m) {e : Nat} (he : e ∈ S) : Lt e := by
  have := (c.hS.mem e).mp he
  have h6 := c.hS.m6
  unfold Lt; omega
theorem Cx.back (c : Cx S W m) {e : Nat} (he : e ∈ S) : bk e ∈ S := by
  have := (c.hS.mem e).mp he
  have h6 := c.hS.m6
  refine (c.hS.mem _).mpr ?_
  unfold bk
  split <;> omega
theorem ThW.back (c : Cx S W m) {e : Nat} {s : Sd} (h : ThW S W e s) : ThW S W (bk e) s := ⟨c.back h.1, h.2.1, by rw [low_bk (c.letter h.1)]; exact h.2.2⟩
theorem pts (d : Dr S W m D) (c : Cx S W m) : Pts S (ThW S W) (PD S D) where
  blk := fun h h1 h2 => PD_blk h h1.1 h2.1 (d.mem c h1) (d.mem c h2)
  inj := fun {e s s'} h1 h2 ne z => by
    have m1 : (e, s) ∈ spotsM S D := spots_mem.mpr ⟨h1.1, d.mem c h1⟩
    have m2 : (e, s') ∈ spotsM S D := spots_mem.mpr ⟨h2.1, d.mem c h2⟩
    have e1 := List.getElem_idxOf (List.idxOf_lt_length_iff.mpr m1)
    have e2 := List.getElem_idxOf (List.idxOf_lt_length_iff.mpr m2)
    have z' : (spotsM S D).idxOf (e, s) = (spotsM S D).idxOf (e, s') := z
    have e3 : (e, s) = (e, s') := by rw [← e1, ← e2]; simp only [z']
    exact ne (congrArg Prod.snd e3)
  flip := fun {e s s'} h1 h2 ne => by
    have hL := c.letter h1.1
    have lb := low_bk hL
    by_cases he : 97 ≤ e
    · have hb : ¬ 97 ≤ bk e := by unfold Lt at hL; unfold bk; split <;> omega
      rw [PD_small d c h1 h2 he, PD_big d c (h2.back c) (h1.back c) hb, lb]
    · have hb : 97 ≤ bk e := by unfold Lt at hL; unfold bk; split <;> omega
      rw [PD_big d c h1 h2 he, PD_small d c (h2.back c) (h1.back c) hb, lb]
end
end Rw


set_option Elab.async false
set_option linter.all false
namespace Rw
/-- the chords of s and r cross -/
def cr (S : List Nat) (W : Ws) (D : Dw) (s r : Sd) : Bool := crossM (chordM S W D s) (chordM S W D r)
theorem slt_irr {x y : Sd} (h : slt x y = true) (h' : slt y x = true) : False := by
  unfold slt at h h'
  have a := of_decide_eq_true h
  have b := of_decide_eq_true h'
  omega
theorem slt_or {x y : Sd} (h : x ≠ y) : slt x y = true ∨ slt y x = true := by
  unfold slt
  rw [decide_eq_true_iff, decide_eq_true_iff]
  have : ¬ (x.1 = y.1 ∧ x.2 = y.2) := fun z => h (Prod.ext z.1 z.2)
  omega
theorem slt_ne {x y : Sd} (h : slt x y = true) : x ≠ y := fun z => by subst z; exact slt_irr h h
section
variable {S : List Nat} {W : Ws} {m : Nat} {D : Dw}
theorem crossF (c : Cx S W m) {x y : Sd} (hx : isS W x) (hy : isS W y) (t : Int) : crossL (PD S D) (fwd W x) (fwd W y) (fwdS W x) (fwdS W y) t = cr S W D (mv W x t) (mv W y t) := by
  unfold cr crossM crossL chordM
  show crs _ _ _ _ = crs ((spotsM S D).idxOf _) ((spotsM S D).idxOf _) ((spotsM S D).idxOf _) ((spotsM S D).idxOf _)
  rw [latMv, latMv, latMv, latMv, mvMv W hx, mvMv W hy, Int.add_zero]
  rfl
theorem crossB (c : Cx S W m) {x y : Sd} (hx : isS W x) (hy : isS W y) (t : Int) : crossL (PD S D) (fwd W x) (bwd W y) (fwdS W x) (bwdS W y) t = cr S W D (mv W x t) (mv W y (-t - 1)) := by
  unfold cr crossM crossL chordM
  show crs _ _ _ _ = crs ((spotsM S D).idxOf _) ((spotsM S D).idxOf _) ((spotsM S D).idxOf _) ((spotsM S D).idxOf _)
  rw [latMv, latMv, latMv, latMv, mvMv W hx, mvMv W hy, Int.add_zero, Int.add_zero, crs_swap2]
  show crs _ _ (PD S D (bk (lat W y (-(t + 1)))) (mv W y (-(t + 1)))) (PD S D (bk (bk (lat W y (-t)))) (mv W y (-t))) = _
  rw [bk_bk (c.lt hy _), show -(t + 1) = -t - 1 by omega, show -t - 1 + 1 = -t by omega]
  rfl
theorem pd_ne {e e' : Nat} {s s' : Sd} (d : Dr S W m D) (c : Cx S W m) (h : ThW S W e s) (h' : ThW S W e' s') (ne : ¬ (e = e' ∧ s = s')) : (spotsM S D).idxOf (e, s) ≠ (spotsM S D).idxOf (e', s') := fun z => by
  have m1 : (e, s) ∈ spotsM S D := spots_mem.mpr ⟨h.1, d.mem c h⟩
  have m2 : (e', s') ∈ spotsM S D := spots_mem.mpr ⟨h'.1, d.mem c h'⟩
  have e1 := List.getElem_idxOf (List.idxOf_lt_length_iff.mpr m1)
  have e2 := List.getElem_idxOf (List.idxOf_lt_length_iff.mpr m2)
  have e3 : (e, s) = (e', s') := by rw [← e1, ← e2]; simp only [z]
  exact ne ⟨congrArg Prod.fst e3, congrArg Prod.snd e3⟩
theorem Cx.thA (c : Cx S W m) {s : Sd} (h : isS W s) : ThW S W (bk (lat W s 0)) s := ⟨c.memB h 0, h, (low_bk (c.lt h 0)).symm⟩
theorem Cx.thB (c : Cx S W m) {s : Sd} (h : isS W s) : ThW S W (lat W s 1) (mv W s 1) := ⟨c.mem h 1, mvS h 1, by rw [latMv, Int.add_zero]⟩
theorem ends_ne (c : Cx S W m) {s r : Sd} (h : isS W s) (h' : isS W r) : ¬ (bk (lat W s 0) = lat W r 1 ∧ s = mv W r 1) := fun ⟨z1, z2⟩ => by
  have : lat W s 0 = lat W r 1 := by rw [z2, latMv]; rfl
  rw [← this] at z1
  exact bk_ne (c.lt h 0) z1
theorem cr_symm (d : Dr S W m D) (c : Cx S W m) {s r : Sd} (h : isS W s) (h' : isS W r) (ne : s ≠ r) : cr S W D s r = cr S W D r s := by
  unfold cr crossM chordM
  refine crs_symm (pd_ne d c (c.thA h) (c.thB h) (ends_ne c h h)) (pd_ne d c (c.thA h') (c.thB h') (ends_ne c h' h')) (pd_ne d c (c.thA h) (c.thA h') fun z => ne z.2) (pd_ne d c (c.thA h) (c.thB h') (ends_ne c h h')) (pd_ne d c (c.thB h) (c.thA h') fun z => ends_ne c h' h ⟨z.1.symm, z.2.symm⟩) (pd_ne d c (c.thB h) (c.thB h') fun z => ne (mv_inj h h' z.2))
theorem cr_self (s : Sd) : cr S W D s s = false := by
  unfold cr crossM crs btw
  generalize (chordM S W D s).a = a
  generalize (chordM S W D s).b = b
  rw [decide_eq_false (by omega), decide_eq_false (by omega)]
  rfl
/-! the links, in terms of stretches -/
theorem tw_cf {u v : Int → Nat} {x y : Int → Sd} {k : Int} (hn : S.Nodup) (L : Line S (ThW S W) u x) (M : Line S (ThW S W) v y) (q : Str u v k) : Tw S u v k ↔ cf S (bk (u (k - 1))) (u k) (v k) = cf S (u 0) (bk (u (-1))) (bk (v (-1))) := by
  have hk := q.pos
  have r1 := L.red (k - 1)
  have r2 := M.red (k - 1)
  have r3 := L.red (-1)
  have r4 := M.red (-1)
  rw [show k - 1 + 1 = k by omega] at r1 r2
  rw [show (-1 : Int) + 1 = 0 by omega] at r3 r4
  have e1 := q.eq (k - 1) (by omega) (by omega)
  have e0 := q.eq 0 (by omega) hk
  rw [← e1] at r2
  rw [← e0] at r4
  have c1 := cf_cyc hn (L.memB (k - 1)) (L.mem k) (M.mem k) r1.symm r2.symm q.fin
  have c2 := cf_cyc hn (L.mem 0) (L.memB (-1)) (M.memB (-1)) r3 r4 fun z => q.beg (bk_inj (L.lt _) (M.lt _) z)
  unfold Tw
  rw [← c1, ← c2]
  cases cf S (bk (u (k - 1))) (u k) (v k) <;> cases cf S (u 0) (bk (u (-1))) (bk (v (-1))) <;> simp
structure LkA (S : List Nat) (W : Ws) (x y : Sd) (k : Nat) : Prop where
  lt : slt x y = true
  le : k ≤ room W x y
  st : Str (fwd W x) (fwd W y) k
  tw : Tw S (fwd W x) (fwd W y) k
structure LkG (S : List Nat) (W : Ws) (x y : Sd) (k : Nat) : Prop where
  lt : slt x (mv W y (1 - (k : Int))) = true
  le : k ≤ room W x y
  st : Str (fwd W x) (bwd W y) k
  tw : Tw S (fwd W x) (bwd W y) k
structure LkB (S : List Nat) (W : Ws) (x y : Sd) : Prop where
  lt : slt x y = true
  nd : [bk (lat W x 0), lat W x 1, bk (lat W y 0), lat W y 1].Nodup
  cf : cf S (bk (lat W x 0)) (bk (lat W y 0)) (lat W x 1) ≠ cf S (bk (lat W x 0)) (lat W y 1) (lat W x 1)
theorem link_A (c : Cx S W m) {x y : Sd} (hx : isS W x) (hy : isS W y) {k : Nat} : isLink S W (.along x y k) = true ↔ LkA S W x y k := by
  unfold isLink isAlong
  simp only [Bool.and_eq_true, decide_eq_true_iff, List.all_eq_true, List.mem_range, beq_iff_eq]
  constructor
  · rintro ⟨h0, ⟨⟨⟨⟨h1, h2⟩, h3⟩, h4⟩, h5⟩, h6⟩
    have q : Str (fwd W x) (fwd W y) k := ⟨by omega, fun t ht0 ht1 => by
      have := h3 t.toNat (by omega)
      rw [Int.toNat_of_nonneg ht0] at this
      exact this, h4, h5⟩
    exact ⟨h1, h2, q, (tw_cf c.hS.nd (c.line hx) (c.line hy) q).mpr h6⟩
  · intro h
    exact ⟨by have := h.st.pos; omega, ⟨⟨⟨⟨h.lt, h.le⟩, fun j hj => h.st.eq j (by omega) (by omega)⟩, h.st.beg⟩, h.st.fin⟩, (tw_cf c.hS.nd (c.line hx) (c.line hy) h.st).mp h.tw⟩
theorem link_G (c : Cx S W m) {x y : Sd} (hx : isS W x) (hy : isS W y) {k : Nat} : isLink S W (.against x y k) = true ↔ LkG S W x y k := by
  unfold isLink isAgainst
  simp only [Bool.and_eq_true, decide_eq_true_iff, List.all_eq_true, List.mem_range, beq_iff_eq]
  have e1 : bwd W y (-1) = bk (lat W y 1) := rfl
  have e2 : bk (bwd W y (-1)) = lat W y 1 := bk_bk (c.lt hy 1)
  constructor
  · rintro ⟨h0, ⟨⟨⟨⟨h1, h2⟩, h3⟩, h4⟩, h5⟩, h6⟩
    have q : Str (fwd W x) (bwd W y) k := ⟨by omega, fun t ht0 ht1 => by
      have := h3 t.toNat (by omega)
      rw [Int.toNat_of_nonneg ht0] at this
      exact this, h4, h5⟩
    refine ⟨h1, h2, q, (tw_cf c.hS.nd (c.line hx) (c.lineB hy) q).mpr ?_⟩
    rw [e2]
    exact h6
  · intro h
    have := (tw_cf c.hS.nd (c.line hx) (c.lineB hy) h.st).mp h.tw
    rw [e2] at this
    exact ⟨by have := h.st.pos; omega, ⟨⟨⟨⟨h.lt, h.le⟩, fun j hj => h.st.eq j (by omega) (by omega)⟩, h.st.beg⟩, h.st.fin⟩, this⟩
theorem link_B {x y : Sd} : isLink S W (.beside x y) = true ↔ LkB S W x y := by
  unfold isLink isBeside
  simp only [Bool.and_eq_true, decide_eq_true_iff, bne_iff_ne, ne_eq]
  exact ⟨fun ⟨⟨h1, h2⟩, h3⟩ => ⟨h1, h2, h3⟩, fun h => ⟨⟨h.lt, h.nd⟩, h.cf⟩⟩
/-- the pair of chords belongs to the link -/
def Rl (W : Ws) : Lk → Sd × Sd → Prop
  | .beside x y, p => p = (x, y)
  | .along x y k, p => ∃ t : Int, -1 ≤ t ∧ t < k ∧ (p = (mv W x t, mv W y t) ∨ p = (mv W y t, mv W x t))
  | .against x y k, p => ∃ t : Int, -1 ≤ t ∧ t < k ∧ (p = (mv W x t, mv W y (-t - 1)) ∨ p = (mv W y (-t - 1), mv W x t))
def lkX : Lk → Sd
  | .beside x _ => x
  | .along x _ _ => x
  | .against x _ _ => x
def lkY : Lk → Sd
  | .beside _ y => y
  | .along _ y _ => y
  | .against _ y _ => y
/-- a crossing of ways i ≤ j -/
structure Cr (S : List Nat) (W : Ws) (D : Dw) (p : Sd × Sd) : Prop where
  h1 : isS W p.1
  h2 : isS W p.2
  lt : slt p.1 p.2 = true
  cr : cr S W D p.1 p.2 = true
theorem norm_cr (d : Dr S W m D) (c : Cx S W m) {s r : Sd} (h : isS W s) (h' : isS W r) (hc : cr S W D s r = true) (hw : s.1 ≤ r.1) : ∃ p, Cr S W D p ∧ p.1.1 = s.1 ∧ p.2.1 = r.1 ∧ (p = (s, r) ∨ p = (r, s)) := by
  have ne : s ≠ r := fun z => by rw [z, cr_self] at hc; cases hc
  rcases slt_or ne with l | l
  · exact ⟨(s, r), ⟨h, h', l, hc⟩, rfl, rfl, .inl rfl⟩
  · have : s.1 = r.1 := by
      unfold slt at l
      have := of_decide_eq_true l
      omega
    exact ⟨(r, s), ⟨h', h, l, by rw [cr_symm d c h' h ne.symm]; exact hc⟩, this.symm, this, .inr rfl⟩
/-- every link has a crossing -/
theorem link_has (d : Dr S W m D) (c : Cx S W m) {l : Lk} (hx : isS W (lkX l)) (hy : isS W (lkY l)) (hw : (lkX l).1 ≤ (lkY l).1) (hl : isLink S W l = true) : ∃ p, Cr S W D p ∧ p.1.1 = (lkX l).1 ∧ p.2.1 = (lkY l).1 ∧ Rl W l p := by
  have P := pts d c
  cases l with
  | beside x y =>
    have h := link_B.mp hl
    refine ⟨(x, y), ⟨hx, hy, h.lt, ?_⟩, rfl, rfl, rfl⟩
    have nd := h.nd
    simp only [List.nodup_cons, List.mem_cons, List.not_mem_nil, or_false, not_or, List.nodup_nil, and_true, not_false_iff] at nd
    obtain ⟨⟨n1, n2, n3⟩, ⟨n4, n5⟩, n6⟩ := nd
    have hx' : isS W x := hx
    have hy' : isS W y := hy
    have e := crossF (D := D) c hx' hy' 0
    rw [mv0 W hx', mv0 W hy'] at e
    have f := cross_free P (c.line hx') (c.line hy') (t := 0) (r := 0) n2 n3 (by exact n4) (by exact n5)
    rw [show (0 : Int) + 1 = 1 by omega] at f
    unfold crossL at e
    rw [show (0 : Int) + 1 = 1 by omega] at e
    rw [← e, f]
    have c1 := cf_cyc c.hS.nd (c.memB hx' 0) (c.memB hy' 0) (c.mem hx' 1) n2 n1 (fun z => n4 z.symm)
    have c2 := cf_cyc c.hS.nd (c.memB hx' 0) (c.mem hy' 1) (c.mem hx' 1) n3 n1 (fun z => n5 z.symm)
    have hcf := h.cf
    show ¬ (cycS S (bk (lat W x 0)) (bk (lat W y 0)) (lat W x 1) ↔ cycS S (bk (lat W x 0)) (lat W y 1) (lat W x 1))
    rw [← c1, ← c2]
    cases q1 : cf S (bk (lat W x 0)) (bk (lat W y 0)) (lat W x 1) <;> cases q2 : cf S (bk (lat W x 0)) (lat W y 1) (lat W x 1) <;> simp_all
  | along x y k =>
    have hx' : isS W x := hx
    have hy' : isS W y := hy
    have h := (link_A c hx' hy').mp hl
    obtain ⟨t, t0, t1, ht⟩ := cross_ex P (c.line hx') (c.line hy') h.st (fun t _ _ z => slt_ne h.lt (mv_inj hx' hy' z)) h.tw
    rw [crossF c hx' hy'] at ht
    obtain ⟨p, p1, p2, p3, p4⟩ := norm_cr d c (mvS hx' t) (mvS hy' t) ht hw
    exact ⟨p, p1, p2, p3, t, t0, t1, p4⟩
  | against x y k =>
    have hx' : isS W x := hx
    have hy' : isS W y := hy
    have h := (link_G c hx' hy').mp hl
    obtain ⟨t, t0, t1, ht⟩ := cross_ex P (c.line hx') (c.lineB hy') h.st (fun t h0 h1 z => by
      have e := h.st.eq t h0 h1
      have z' : mv W x t = mv W y (-t) := z
      have e2 : lat W x t = lat W y (-t) := by
        have := congrArg (fun s => lat W s 0) z'
        simpa [latMv] using this
      have e' : lat W x t = bk (lat W y (-t)) := e
      rw [e2] at e'
      exact bk_ne (c.lt hy' _) e'.symm) h.tw
    rw [crossB c hx' hy'] at ht
    obtain ⟨p, p1, p2, p3, p4⟩ := norm_cr d c (mvS hx' t) (mvS hy' _) ht hw
    exact ⟨p, p1, p2, p3, t, t0, t1, p4⟩
/-! a crossing lies in one link at most -/
def shA (W : Ws) (p : Sd × Sd) : Prop := lat W p.1 0 = lat W p.2 0 ∨ lat W p.1 1 = lat W p.2 1
def shG (W : Ws) (p : Sd × Sd) : Prop := lat W p.1 0 = bk (lat W p.2 1) ∨ lat W p.1 1 = bk (lat W p.2 0)
theorem not_both (c : Cx S W m) {p : Sd × Sd} (h1 : isS W p.1) (h2 : isS W p.2) (a : shA W p) (g : shG W p) : False := by
  have r1 := c.red h1 0
  have r2 := c.red h2 0
  have l1 := c.lt h1
  have l2 := c.lt h2
  rw [show (0 : Int) + 1 = 1 by omega] at r1 r2
  rcases a with a | a <;> rcases g with g | g
  · rw [a] at g
    exact r2 (by rw [g, bk_bk (l2 1)])
  · rw [← a] at g
    exact r1 g
  · rw [← a] at g
    exact r1 (by rw [g, bk_bk (l1 1)])
  · rw [a] at g
    exact r2 g
theorem rl_A (c : Cx S W m) {x y : Sd} (hx : isS W x) (hy : isS W y) {k : Nat} (h : LkA S W x y k) {p : Sd × Sd} (r : Rl W (.along x y k) p) : shA W p := by
  obtain ⟨t, t0, t1, e⟩ := r
  have key : lat W (mv W x t) 0 = lat W (mv W y t) 0 ∨ lat W (mv W x t) 1 = lat W (mv W y t) 1 := by
    have hp := h.st.pos
    rw [latMv, latMv, latMv, latMv, Int.add_zero]
    by_cases q : 0 ≤ t
    · exact .inl (h.st.eq t q t1)
    · exact .inr (h.st.eq (t + 1) (by omega) (by omega))
  rcases e with rfl | rfl
  · exact key
  · exact key.imp Eq.symm Eq.symm
theorem rl_G (c : Cx S W m) {x y : Sd} (hx : isS W x) (hy : isS W y) {k : Nat} (h : LkG S W x y k) {p : Sd × Sd} (r : Rl W (.against x y k) p) : shG W p := by
  obtain ⟨t, t0, t1, e⟩ := r
  have key : lat W x t = bk (lat W y (-t)) ∨ lat W x (t + 1) = bk (lat W y (-t - 1)) := by
    have hp := h.st.pos
    by_cases q : 0 ≤ t
    · exact .inl (h.st.eq t q t1)
    · have := h.st.eq (t + 1) (by omega) (by omega)
      have e2 : bwd W y (t + 1) = bk (lat W y (-t - 1)) := by show bk (lat W y (-(t + 1))) = _; rw [show -(t + 1) = -t - 1 by omega]
      exact .inr (this.trans e2)
  rcases e with rfl | rfl
  · show lat W (mv W x t) 0 = bk (lat W (mv W y (-t - 1)) 1) ∨ lat W (mv W x t) 1 = bk (lat W (mv W y (-t - 1)) 0)
    rw [latMv, latMv, latMv, latMv, Int.add_zero, Int.add_zero, show -t - 1 + 1 = -t by omega]
    exact key
  · show lat W (mv W y (-t - 1)) 0 = bk (lat W (mv W x t) 1) ∨ lat W (mv W y (-t - 1)) 1 = bk (lat W (mv W x t) 0)
    rw [latMv, latMv, latMv, latMv, Int.add_zero, Int.add_zero, show -t - 1 + 1 = -t by omega]
    rcases key with k | k
    · exact .inr (by rw [k, bk_bk (c.lt hy _)])
    · exact .inl (by rw [k, bk_bk (c.lt hy _)])
theorem str_symm {u v : Int → Nat} {k : Int} (q : Str u v k) : Str v u k := ⟨q.pos, fun t h0 h1 => (q.eq t h0 h1).symm, q.beg.symm, q.fin.symm⟩
theorem same_A {x y x' y' : Sd} (hx : isS W x) (hy : isS W y) (hx' : isS W x') (hy' : isS W y') {k k' : Nat} (q : Str (fwd W x) (fwd W y) k) (q' : Str (fwd W x') (fwd W y') k') {t t' : Int} (e1 : mv W x t = mv W x' t') (e2 : mv W y t = mv W y' t') (t0 : -1 ≤ t) (t1 : t < k) (t0' : -1 ≤ t') (t1' : t' < k') : x = x' ∧ y = y' ∧ k = k' := by
  have u : ∀ s, fwd W x (t + s) = fwd W x' (t' + s) := fun s => by
    have := congrArg (fun z => lat W z s) e1
    simpa [latMv] using this
  have v : ∀ s, fwd W y (t + s) = fwd W y' (t' + s) := fun s => by
    have := congrArg (fun z => lat W z s) e2
    simpa [latMv] using this
  obtain ⟨et, ek⟩ := str_shift q q' u v t0 t1 t0' t1'
  subst et
  exact ⟨mv_inj hx hx' e1, mv_inj hy hy' e2, by omega⟩
theorem same_G {x y x' y' : Sd} (hx : isS W x) (hy : isS W y) (hx' : isS W x') (hy' : isS W y') {k k' : Nat} (q : Str (fwd W x) (bwd W y) k) (q' : Str (fwd W x') (bwd W y') k') {t t' : Int} (e1 : mv W x t = mv W x' t') (e2 : mv W y (-t - 1) = mv W y' (-t' - 1)) (t0 : -1 ≤ t) (t1 : t < k) (t0' : -1 ≤ t') (t1' : t' < k') : x = x' ∧ y = y' ∧ k = k' ∧ t = t' := by
  have u : ∀ s, fwd W x (t + s) = fwd W x' (t' + s) := fun s => by
    have := congrArg (fun z => lat W z s) e1
    simpa [latMv] using this
  have v : ∀ s, bwd W y (t + s) = bwd W y' (t' + s) := fun s => by
    have := congrArg (fun z => lat W z (1 - s)) e2
    simp only [latMv] at this
    rw [show -t - 1 + (1 - s) = -(t + s) by omega, show -t' - 1 + (1 - s) = -(t' + s) by omega] at this
    exact congrArg bk this
  obtain ⟨et, ek⟩ := str_shift q q' u v t0 t1 t0' t1'
  subst et
  exact ⟨mv_inj hx hx' e1, mv_inj hy hy' e2, by omega, rfl⟩
theorem rev_G (c : Cx S W m) {x y : Sd} (hx : isS W x) (hy : isS W y) {k : Nat} (q : Str (fwd W x) (bwd W y) k) : Str (fwd W (mv W y (1 - (k : Int)))) (bwd W (mv W x ((k : Int) - 1))) k := by
  have r := str_rev (c.lt hx) (fun t => bk_lt (c.lt hy _)) q
  have e1 : fwd W (mv W y (1 - (k : Int))) = fun r => bk (bwd W y ((k : Int) - 1 - r)) := by
    funext r
    show lat W (mv W y (1 - (k : Int))) r = bk (bk (lat W y (-((k : Int) - 1 - r))))
    rw [latMv, bk_bk (c.lt hy _), show (1 - (k : Int)) + r = -((k : Int) - 1 - r) by omega]
  have e2 : bwd W (mv W x ((k : Int) - 1)) = fun r => bk (fwd W x ((k : Int) - 1 - r)) := by
    funext r
    show bk (lat W (mv W x ((k : Int) - 1)) (-r)) = bk (lat W x ((k : Int) - 1 - r))
    rw [latMv, show (k : Int) - 1 + -r = (k : Int) - 1 - r by omega]
  rw [e1, e2]
  exact r
theorem one_link (c : Cx S W m) {l l' : Lk} (hx : isS W (lkX l)) (hy : isS W (lkY l)) (hx' : isS W (lkX l')) (hy' : isS W (lkY l')) (hl : isLink S W l = true) (hl' : isLink S W l' = true) {p : Sd × Sd} (h1 : isS W p.1) (h2 : isS W p.2) (r : Rl W l p) (r' : Rl W l' p) : l = l' := by
  have noB : ∀ {x y : Sd}, LkB S W x y → p = (x, y) → ¬ shA W p ∧ ¬ shG W p := by
    intro x y h e
    subst e
    have nd := h.nd
    simp only [List.nodup_cons, List.mem_cons, List.not_mem_nil, or_false, not_or, List.nodup_nil, and_true, not_false_iff] at nd
    obtain ⟨⟨n1, n2, n3⟩, ⟨n4, n5⟩, n6⟩ := nd
    refine ⟨fun z => ?_, fun z => ?_⟩
    · rcases z with z | z
      · exact n2 (congrArg bk z)
      · exact n5 z
    · rcases z with z | z
      · have z' : lat W x 0 = bk (lat W y 1) := z
        exact n3 (by rw [z', bk_bk (c.lt h2 1)])
      · exact n4 z
  cases l with
  | beside x y =>
    cases l' with
    | beside x' y' =>
      have e : (x, y) = (x', y') := Eq.trans (Eq.symm r) r'
      cases e; rfl
    | along x' y' k' => exact absurd (rl_A c hx' hy' ((link_A c hx' hy').mp hl') r') (noB (link_B.mp hl) r).1
    | against x' y' k' => exact absurd (rl_G c hx' hy' ((link_G c hx' hy').mp hl') r') (noB (link_B.mp hl) r).2
  | along x y k =>
    have h := (link_A c hx hy).mp hl
    cases l' with
    | beside x' y' => exact absurd (rl_A c hx hy h r) (noB (link_B.mp hl') r').1
    | along x' y' k' =>
      have h' := (link_A c hx' hy').mp hl'
      obtain ⟨t, t0, t1, e⟩ := r
      obtain ⟨t', t0', t1', e'⟩ := r'
      have done : ∀ {x y x' y' : Sd}, x = x' ∧ y = y' ∧ k = k' → Lk.along x y k = .along x' y' k' := fun ⟨a, b, d⟩ => by rw [a, b, d]
      have opp : ∀ {a b : Sd}, mv W x t = mv W y' t' → mv W y t = mv W x' t' → False := by
        intro a b z1 z2
        obtain ⟨a1, a2, _⟩ := same_A hx hy hy' hx' h.st (str_symm h'.st) z1 z2 t0 t1 t0' t1'
        have a1' : x = y' := a1
        have a2' : y = x' := a2
        have l1 := h.lt
        rw [a1', a2'] at l1
        exact slt_irr l1 h'.lt
      rcases e with e | e <;> rcases e' with e' | e'
      · have z := e.symm.trans e'
        exact done (same_A hx hy hx' hy' h.st h'.st (congrArg Prod.fst z) (congrArg Prod.snd z) t0 t1 t0' t1')
      · have z := e.symm.trans e'
        exact (opp (a := x) (b := y) (congrArg Prod.fst z) (congrArg Prod.snd z)).elim
      · have z := e.symm.trans e'
        exact (opp (a := x) (b := y) (congrArg Prod.snd z) (congrArg Prod.fst z)).elim
      · have z := e.symm.trans e'
        exact done (same_A hx hy hx' hy' h.st h'.st (congrArg Prod.snd z) (congrArg Prod.fst z) t0 t1 t0' t1')
    | against x' y' k' => exact (not_both c h1 h2 (rl_A c hx hy h r) (rl_G c hx' hy' ((link_G c hx' hy').mp hl') r')).elim
  | against x y k =>
    have h := (link_G c hx hy).mp hl
    cases l' with
    | beside x' y' => exact absurd (rl_G c hx hy h r) (noB (link_B.mp hl') r').2
    | along x' y' k' => exact (not_both c h1 h2 (rl_A c hx' hy' ((link_A c hx' hy').mp hl') r') (rl_G c hx hy h r)).elim
    | against x' y' k' =>
      have h' := (link_G c hx' hy').mp hl'
      obtain ⟨t, t0, t1, e⟩ := r
      obtain ⟨t', t0', t1', e'⟩ := r'
      have done : ∀ {x y x' y' : Sd}, x = x' ∧ y = y' ∧ k = k' ∧ t = t' → Lk.against x y k = .against x' y' k' := fun ⟨a, b, d, _⟩ => by rw [a, b, d]
      have hxS : isS W x := hx
      have hyS : isS W y := hy
      have opp : mv W x t = mv W y' (-t' - 1) → mv W y (-t - 1) = mv W x' t' → False := by
        intro z1 z2
        have q := rev_G c hxS hyS h.st
        have w1 : mv W (mv W y (1 - (k : Int))) ((k : Int) - 2 - t) = mv W x' t' := by rw [mvMv W hyS, show 1 - (k : Int) + ((k : Int) - 2 - t) = -t - 1 by omega]; exact z2
        have w2 : mv W (mv W x ((k : Int) - 1)) (-((k : Int) - 2 - t) - 1) = mv W y' (-t' - 1) := by rw [mvMv W hxS, show (k : Int) - 1 + (-((k : Int) - 2 - t) - 1) = t by omega]; exact z1
        obtain ⟨a1, a2, a3, _⟩ := same_G (mvS hyS _) (mvS hxS _) hx' hy' q h'.st w1 w2 (by omega) (by omega) t0' t1'
        have l' : slt x' (mv W y' (1 - (k' : Int))) = true := h'.lt
        have a1' : mv W y (1 - (k : Int)) = x' := a1
        have a2' : mv W x ((k : Int) - 1) = y' := a2
        rw [← a1', ← a2', ← a3, mvMv W hxS, show (k : Int) - 1 + (1 - (k : Int)) = 0 by omega, mv0 W hxS] at l'
        exact slt_irr h.lt l'
      rcases e with e | e <;> rcases e' with e' | e'
      · have z := e.symm.trans e'
        exact done (same_G hx hy hx' hy' h.st h'.st (congrArg Prod.fst z) (congrArg Prod.snd z) t0 t1 t0' t1')
      · have z := e.symm.trans e'
        exact (opp (congrArg Prod.fst z) (congrArg Prod.snd z)).elim
      · have z := e.symm.trans e'
        exact (opp (congrArg Prod.snd z) (congrArg Prod.fst z)).elim
      · have z := e.symm.trans e'
        exact done (same_G hx hy hx' hy' h.st h'.st (congrArg Prod.snd z) (congrArg Prod.fst z) t0 t1 t0' t1')
end
end Rw


set_option Elab.async false
set_option linter.all false
namespace Rw
theorem runUp_spec (f : Nat → Bool) : ∀ n k, k ≤ runUp f n k ∧ runUp f n k ≤ k + n ∧ (∀ j, k ≤ j → j < runUp f n k → f j = true) ∧ (runUp f n k < k + n → f (runUp f n k) = false)
  | 0, k => ⟨Nat.le_refl _, Nat.le_refl _, fun j h1 h2 => by have : j < k := h2; omega, fun h => absurd h (Nat.lt_irrefl _)⟩
  | n + 1, k => by
    unfold runUp
    cases h : f k with
    | false =>
      rw [if_neg Bool.false_ne_true]
      exact ⟨Nat.le_refl _, by omega, fun j h1 h2 => by omega, fun _ => h⟩
    | true =>
      rw [if_pos rfl]
      obtain ⟨h1, h2, h3, h4⟩ := runUp_spec f n (k + 1)
      refine ⟨by omega, by omega, fun j a b => ?_, fun a => h4 (by omega)⟩
      by_cases e : j = k
      · rw [e]; exact h
      · exact h3 j (by omega) b
/-- strand s goes through band n -/
def Bd (W : Ws) (n : Nat) (s : Sd) : Prop := isS W s ∧ low (lat W s 0) = 97 + n
section
variable {S : List Nat} {W : Ws} {m : Nat} {n : Nat}
theorem met_fb (W : Ws) (x : Sd) : (97 ≤ lat W x 0 ∧ met W x = fwd W x) ∨ (¬ 97 ≤ lat W x 0 ∧ met W x = bwd W x) := by
  by_cases h : 97 ≤ lat W x 0
  · exact .inl ⟨h, by funext k; unfold met; rw [if_pos h]⟩
  · exact .inr ⟨h, by funext k; unfold met; rw [if_neg h]⟩
theorem met_per (W : Ws) (x : Sd) (t : Int) : met W x (t + ((wy W x.1).length : Int)) = met W x t := by
  rcases met_fb W x with ⟨_, e⟩ | ⟨_, e⟩ <;> rw [e]
  · exact per_lat W x t
  · exact per_bwd W x t
theorem met_ever {x y : Sd} (hx : isS W x) (hy : isS W y) {a : Int} (h : ∀ t, a ≤ t → t < a + (room W x y : Nat) → met W x t = met W y t) : ∀ t, met W x t = met W y t :=
  ever (isS_pos hx) (isS_pos hy) (met_per W x) (met_per W y) (a := a) fun t h1 h2 => h t h1 (by unfold room; omega)
theorem met_0 (c : Cx S W m) {x : Sd} (h : Bd W n x) : met W x 0 = 97 + n := by
  have hl := c.lt h.1 0
  have e := h.2
  unfold met
  unfold low at e
  unfold Lt at hl
  split
  · rw [if_neg (by omega)] at e; exact e
  · rw [if_pos (by omega)] at e
    rw [show -(0 : Int) = 0 by omega]
    unfold bk
    rw [if_pos (by omega)]
    exact e
theorem met_mem (c : Cx S W m) {x : Sd} (h : isS W x) (k : Int) : met W x k ∈ S ∧ bk (met W x k) ∈ S := by
  rcases met_fb W x with ⟨_, e⟩ | ⟨_, e⟩ <;> rw [e]
  · exact ⟨c.mem h k, c.memB h k⟩
  · exact ⟨c.memB h _, by show bk (bk _) ∈ S; rw [bk_bk (c.lt h _)]; exact c.mem h _⟩
theorem met_lt (c : Cx S W m) {x : Sd} (h : isS W x) (k : Int) : Lt (met W x k) := c.letter (met_mem c h k).1
/-- the readings, ahead and behind in turn -/
def qx (W : Ws) (x : Sd) (i : Nat) : Nat := if i % 2 = 0 then met W x ((i / 2 : Nat) + 1 : Int) else met W x (-((i / 2 : Nat) : Int) - 1)
def les (S : List Nat) (W : Ws) (x y : Sd) (d : Nat) : Bool :=
  if d % 2 = 0 then cf S (bk (met W x (d / 2 : Nat))) (met W x ((d / 2 : Nat) + 1 : Int)) (met W y ((d / 2 : Nat) + 1 : Int))
  else cf S (met W x (-((d / 2 : Nat) : Int))) (bk (met W y (-((d / 2 : Nat) : Int) - 1))) (bk (met W x (-((d / 2 : Nat) : Int) - 1)))
def Evr (W : Ws) (x y : Sd) : Prop := ∀ k, met W x k = met W y k
/-- where the readings of x and y part: a steps ahead, b steps behind -/
structure Dv (W : Ws) (x y : Sd) (a b : Nat) : Prop where
  eq : ∀ k : Int, -(b : Int) ≤ k → k ≤ (a : Int) → met W x k = met W y k
  fa : met W x ((a : Int) + 1) ≠ met W y ((a : Int) + 1)
  fb : met W x (-(b : Int) - 1) ≠ met W y (-(b : Int) - 1)
theorem runOn_1 (W : Ws) (x y : Sd) : (∀ k : Int, 1 ≤ k → k ≤ (runOn W x y 1 : Nat) → met W x k = met W y k) ∧ runOn W x y 1 ≤ room W x y ∧ (runOn W x y 1 < room W x y → met W x ((runOn W x y 1 : Nat) + 1 : Int) ≠ met W y ((runOn W x y 1 : Nat) + 1 : Int)) := by
  obtain ⟨_, h2, h3, h4⟩ := runUp_spec (fun k => decide (met W x (1 * ((k : Int) + 1)) = met W y (1 * ((k : Int) + 1)))) (room W x y) 0
  have e : runOn W x y 1 = runUp (fun k => decide (met W x (1 * ((k : Int) + 1)) = met W y (1 * ((k : Int) + 1)))) (room W x y) 0 := rfl
  rw [← e] at h2 h3 h4
  refine ⟨fun k a b => ?_, by omega, fun h => ?_⟩
  · have := of_decide_eq_true (h3 (k - 1).toNat (by omega) (by omega))
    rw [Int.toNat_of_nonneg (by omega), show 1 * (k - 1 + 1) = k by omega] at this
    exact this
  · have := of_decide_eq_false (h4 (by omega))
    rw [Int.one_mul] at this
    exact this
theorem runOn_m (W : Ws) (x y : Sd) : (∀ k : Int, -((runOn W x y (-1) : Nat) : Int) ≤ k → k ≤ -1 → met W x k = met W y k) ∧ runOn W x y (-1) ≤ room W x y ∧ (runOn W x y (-1) < room W x y → met W x (-((runOn W x y (-1) : Nat) : Int) - 1) ≠ met W y (-((runOn W x y (-1) : Nat) : Int) - 1)) := by
  obtain ⟨_, h2, h3, h4⟩ := runUp_spec (fun k => decide (met W x (-1 * ((k : Int) + 1)) = met W y (-1 * ((k : Int) + 1)))) (room W x y) 0
  have e : runOn W x y (-1) = runUp (fun k => decide (met W x (-1 * ((k : Int) + 1)) = met W y (-1 * ((k : Int) + 1)))) (room W x y) 0 := rfl
  rw [← e] at h2 h3 h4
  refine ⟨fun k a b => ?_, by omega, fun h => ?_⟩
  · have := of_decide_eq_true (h3 (-k - 1).toNat (by omega) (by omega))
    rw [Int.toNat_of_nonneg (by omega), show -1 * (-k - 1 + 1) = k by omega] at this
    exact this
  · have := of_decide_eq_false (h4 (by omega))
    rw [show -1 * (((runOn W x y (-1) : Nat) : Int) + 1) = -((runOn W x y (-1) : Nat) : Int) - 1 by omega] at this
    exact this
theorem sf_ever {x y : Sd} (h : Evr W x y) : sFirst S W x y = (slt x y == decide (97 ≤ lat W (smin x y) 0)) := by
  obtain ⟨_, h2, h3⟩ := runOn_1 W x y
  have e : runOn W x y 1 = room W x y := by
    rcases Nat.lt_or_ge (runOn W x y 1) (room W x y) with l | l
    · exact absurd (h _) (h3 l)
    · omega
  unfold sFirst
  rw [e]
  exact if_pos rfl
theorem dv_is (c : Cx S W m) {x y : Sd} (hx : Bd W n x) (hy : Bd W n y) (h : ¬ Evr W x y) : Dv W x y (runOn W x y 1) (runOn W x y (-1)) ∧ sFirst S W x y = if runOn W x y 1 ≤ runOn W x y (-1) then cf S (bk (met W x (runOn W x y 1 : Nat))) (met W x ((runOn W x y 1 : Nat) + 1 : Int)) (met W y ((runOn W x y 1 : Nat) + 1 : Int)) else cf S (met W x (-((runOn W x y (-1) : Nat) : Int))) (bk (met W y (-((runOn W x y (-1) : Nat) : Int) - 1))) (bk (met W x (-((runOn W x y (-1) : Nat) : Int) - 1))) := by
  obtain ⟨a1, a2, a3⟩ := runOn_1 W x y
  obtain ⟨b1, b2, b3⟩ := runOn_m W x y
  have la : runOn W x y 1 < room W x y := by
    rcases Nat.lt_or_ge (runOn W x y 1) (room W x y) with l | l
    · exact l
    · exact absurd (met_ever hx.1 hy.1 (a := 1) fun t h1 h2 => a1 t h1 (by omega)) h
  have lb : runOn W x y (-1) < room W x y := by
    rcases Nat.lt_or_ge (runOn W x y (-1)) (room W x y) with l | l
    · exact l
    · exact absurd (met_ever hx.1 hy.1 (a := -((room W x y : Nat) : Int)) fun t h1 h2 => b1 t (by omega) (by omega)) h
  refine ⟨⟨fun k h1 h2 => ?_, a3 la, b3 lb⟩, ?_⟩
  · by_cases e : k = 0
    · rw [e, met_0 c hx, met_0 c hy]
    · by_cases p : 0 < k
      · exact a1 k (by omega) h2
      · exact b1 k h1 (by omega)
  · unfold sFirst
    rw [if_neg (by omega)]
    by_cases q : runOn W x y 1 ≤ runOn W x y (-1)
    · rw [if_pos q, if_pos (by omega)]
    · rw [if_neg q, if_neg (by omega)]
theorem dv_uniq {x y : Sd} {a b a' b' : Nat} (h : Dv W x y a b) (h' : Dv W x y a' b') : a = a' ∧ b = b' := by
  refine ⟨?_, ?_⟩
  · rcases Nat.lt_trichotomy a a' with l | l | l
    · exact absurd (h'.eq _ (by omega) (by omega)) h.fa
    · exact l
    · exact absurd (h.eq _ (by omega) (by omega)) h'.fa
  · rcases Nat.lt_trichotomy b b' with l | l | l
    · exact absurd (h'.eq _ (by omega) (by omega)) h.fb
    · exact l
    · exact absurd (h.eq _ (by omega) (by omega)) h'.fb
theorem sf_dv (c : Cx S W m) {x y : Sd} (hx : Bd W n x) (hy : Bd W n y) {a b : Nat} (h : Dv W x y a b) : sFirst S W x y = if a ≤ b then cf S (bk (met W x (a : Nat))) (met W x ((a : Nat) + 1 : Int)) (met W y ((a : Nat) + 1 : Int)) else cf S (met W x (-((b : Nat) : Int))) (bk (met W y (-((b : Nat) : Int) - 1))) (bk (met W x (-((b : Nat) : Int) - 1))) := by
  obtain ⟨d, e⟩ := dv_is c hx hy fun z => h.fa (z _)
  obtain ⟨e1, e2⟩ := dv_uniq d h
  rw [e, e1, e2]
/-- the first place at which the readings differ tells the order -/
theorem sf_first (c : Cx S W m) {x y : Sd} (hx : Bd W n x) (hy : Bd W n y) (h : ¬ Evr W x y) : ∃ d, (∀ i < d, qx W x i = qx W y i) ∧ qx W x d ≠ qx W y d ∧ sFirst S W x y = les S W x y d := by
  obtain ⟨dv, e⟩ := dv_is c hx hy h
  generalize runOn W x y 1 = a at *
  generalize runOn W x y (-1) = b at *
  by_cases q : a ≤ b
  · rw [if_pos q] at e
    refine ⟨2 * a, fun i hi => ?_, ?_, ?_⟩
    · unfold qx
      split
      · exact dv.eq _ (by omega) (by omega)
      · exact dv.eq _ (by omega) (by omega)
    · unfold qx
      rw [if_pos (by omega), if_pos (by omega), show 2 * a / 2 = a by omega]
      exact dv.fa
    · unfold les
      rw [if_pos (by omega), show 2 * a / 2 = a by omega]
      exact e
  · rw [if_neg q] at e
    refine ⟨2 * b + 1, fun i hi => ?_, ?_, ?_⟩
    · unfold qx
      split
      · exact dv.eq _ (by omega) (by omega)
      · exact dv.eq _ (by omega) (by omega)
    · unfold qx
      rw [if_neg (by omega), if_neg (by omega), show (2 * b + 1) / 2 = b by omega]
      exact dv.fb
    · unfold les
      rw [if_neg (by omega), show (2 * b + 1) / 2 = b by omega]
      exact e
theorem first_uniq {f g : Nat → Nat} {d d' : Nat} (h1 : ∀ i < d, f i = g i) (h2 : f d ≠ g d) (h1' : ∀ i < d', f i = g i) (h2' : f d' ≠ g d') : d = d' := by
  rcases Nat.lt_trichotomy d d' with l | l | l
  · exact absurd (h1' d l) h2
  · exact l
  · exact absurd (h1 d' l) h2'
theorem sf_at (c : Cx S W m) {x y : Sd} (hx : Bd W n x) (hy : Bd W n y) {d : Nat} (h1 : ∀ i < d, qx W x i = qx W y i) (h2 : qx W x d ≠ qx W y d) : sFirst S W x y = les S W x y d := by
  have ne : ¬ Evr W x y := fun z => h2 (by unfold qx; split <;> exact z _)
  obtain ⟨d', a1, a2, a3⟩ := sf_first c hx hy ne
  rw [a3, first_uniq h1 h2 a1 a2]
/-- the letter ahead of place d, which all share who share what lies ahead -/
theorem base_eq (c : Cx S W m) {x y : Sd} (hx : Bd W n x) (hy : Bd W n y) {d : Nat} (h : ∀ i < d, qx W x i = qx W y i) : (d % 2 = 0 → met W x (d / 2 : Nat) = met W y (d / 2 : Nat)) ∧ (¬ d % 2 = 0 → met W x (-((d / 2 : Nat) : Int)) = met W y (-((d / 2 : Nat) : Int))) := by
  refine ⟨fun e => ?_, fun e => ?_⟩
  · by_cases z : d = 0
    · subst z
      show met W x ((0 : Nat) : Int) = met W y ((0 : Nat) : Int)
      rw [show ((0 : Nat) : Int) = 0 from rfl, met_0 c hx, met_0 c hy]
    · have := h (d - 2) (by omega)
      unfold qx at this
      rw [if_pos (by omega), if_pos (by omega), show (((d - 2) / 2 : Nat) : Int) + 1 = ((d / 2 : Nat) : Int) by omega] at this
      exact this
  · by_cases z : d / 2 = 0
    · rw [z]
      show met W x (-((0 : Nat) : Int)) = met W y (-((0 : Nat) : Int))
      rw [show -((0 : Nat) : Int) = 0 from rfl, met_0 c hx, met_0 c hy]
    · have := h (d - 2) (by omega)
      unfold qx at this
      rw [if_neg (by omega), if_neg (by omega), show -(((d - 2) / 2 : Nat) : Int) - 1 = -((d / 2 : Nat) : Int) by omega] at this
      exact this
theorem les_flip (c : Cx S W m) {x y : Sd} (hx : Bd W n x) (hy : Bd W n y) {d : Nat} (h1 : ∀ i < d, qx W x i = qx W y i) (h2 : qx W x d ≠ qx W y d) : les S W x y d = !les S W y x d := by
  obtain ⟨b1, b2⟩ := base_eq c hx hy h1
  unfold qx at h2
  unfold les
  split
  · rename_i e
    rw [if_pos e, if_pos e] at h2
    rw [← b1 e]
    exact cf_flip c.hS.nd (met_mem c hx.1 _).2 (met_mem c hx.1 _).1 (met_mem c hy.1 _).1 h2
  · rename_i e
    rw [if_neg e, if_neg e] at h2
    rw [← b2 e]
    exact cf_flip c.hS.nd (met_mem c hx.1 _).1 (met_mem c hy.1 _).2 (met_mem c hx.1 _).2 fun z => h2 (bk_inj (met_lt c hx.1 _) (met_lt c hy.1 _) z.symm)
theorem cf_irr (b o : Nat) : cf S b o o = false := decide_eq_false (Nat.lt_irrefl _)
theorem les_trans (c : Cx S W m) {x y z : Sd} (hx : Bd W n x) (hy : Bd W n y) (hz : Bd W n z) {d : Nat} (h1 : ∀ i < d, qx W x i = qx W y i) (h2 : ∀ i < d, qx W y i = qx W z i) (l1 : les S W x y d = true) (l2 : les S W y z d = true) : les S W x z d = true ∧ qx W x d ≠ qx W z d := by
  obtain ⟨b1, b2⟩ := base_eq c hx hy h1
  unfold les at l1 l2 ⊢
  unfold qx
  by_cases e : d % 2 = 0
  · rw [if_pos e] at l1 l2 ⊢
    rw [if_pos e, if_pos e]
    rw [← b1 e] at l2
    have t := cf_trans l1 l2
    exact ⟨t, fun q => by rw [q, cf_irr] at t; cases t⟩
  · rw [if_neg e] at l1 l2 ⊢
    rw [if_neg e, if_neg e]
    rw [← b2 e] at l2
    have t := cf_trans l2 l1
    exact ⟨t, fun q => by rw [q, cf_irr] at t; cases t⟩
theorem les_congr {x x' y y' : Sd} {d : Nat} (b1 : d % 2 = 0 → met W x (d / 2 : Nat) = met W x' (d / 2 : Nat)) (b2 : ¬ d % 2 = 0 → met W x (-((d / 2 : Nat) : Int)) = met W x' (-((d / 2 : Nat) : Int))) (hx : qx W x d = qx W x' d) (hy : qx W y d = qx W y' d) : les S W x y d = les S W x' y' d := by
  unfold qx at hx hy
  unfold les
  split
  · rename_i e
    rw [if_pos e, if_pos e] at hx hy
    rw [b1 e, hx, hy]
  · rename_i e
    rw [if_neg e, if_neg e] at hx hy
    rw [b2 e, hx, hy]
theorem evr_q {x y : Sd} (h : Evr W x y) (i : Nat) : qx W x i = qx W y i := by unfold qx; split <;> exact h _
/-- two strands of a band that read alike for ever are of two ways -/
theorem evr_way (c : Cx S W m) {x y : Sd} (hx : Bd W n x) (hy : Bd W n y) (h : Evr W x y) (ne : x ≠ y) : x.1 ≠ y.1 := fun e => by
  rcases met_fb W x with ⟨_, ex⟩ | ⟨_, ex⟩ <;> rcases met_fb W y with ⟨_, ey⟩ | ⟨_, ey⟩
  · exact ne (c.same_way hx.1 hy.1 e fun t => by have := h t; rwa [ex, ey] at this)
  · exact c.not_back hx.1 e fun t => by have := h t; rwa [ex, ey] at this
  · exact c.not_back hy.1 e.symm fun t => by have := (h t).symm; rwa [ex, ey] at this
  · refine ne (c.same_way hx.1 hy.1 e fun t => ?_)
    have := h (-t)
    rw [ex, ey] at this
    have e2 := bk_inj (c.lt hx.1 _) (c.lt hy.1 _) this
    rw [show -(-t) = t by omega] at e2
    exact e2
theorem slt_way {x y : Sd} (h : x.1 ≠ y.1) : slt x y = decide (x.1 < y.1) := by
  unfold slt
  exact decide_eq_decide.mpr (by omega)
/-- the tie rule -/
theorem tie_is {x y : Sd} (h : x.1 ≠ y.1) : (slt x y == decide (97 ≤ lat W (smin x y) 0)) = if x.1 < y.1 then decide (97 ≤ lat W x 0) else !decide (97 ≤ lat W y 0) := by
  unfold smin
  rw [slt_way h, slt_way (Ne.symm h)]
  by_cases l : x.1 < y.1
  · have e1 : decide (x.1 < y.1) = true := decide_eq_true l
    have e2 : decide (y.1 < x.1) = false := decide_eq_false (by omega)
    rw [if_pos l, e1, e2, if_neg Bool.false_ne_true]
    cases decide (97 ≤ lat W x 0) <;> rfl
  · have e1 : decide (x.1 < y.1) = false := decide_eq_false l
    have e2 : decide (y.1 < x.1) = true := decide_eq_true (by omega)
    rw [if_neg l, e1, e2, if_pos rfl]
    cases decide (97 ≤ lat W y 0) <;> rfl
theorem sf_flip (c : Cx S W m) {x y : Sd} (hx : Bd W n x) (hy : Bd W n y) (ne : x ≠ y) : sFirst S W x y = !sFirst S W y x := by
  by_cases h : Evr W x y
  · have hw := evr_way c hx hy h ne
    rw [sf_ever h, sf_ever (fun k => (h k).symm), tie_is hw, tie_is (Ne.symm hw)]
    by_cases l : x.1 < y.1
    · rw [if_pos l, if_neg (by omega), Bool.not_not]
    · rw [if_neg l, if_pos (by omega)]
  · obtain ⟨d, h1, h2, h3⟩ := sf_first c hx hy h
    rw [h3, sf_at c hy hx (fun i hi => (h1 i hi).symm) h2.symm]
    exact les_flip c hx hy h1 h2
theorem sf_trans (c : Cx S W m) {x y z : Sd} (hx : Bd W n x) (hy : Bd W n y) (hz : Bd W n z) (nxy : x ≠ y) (nyz : y ≠ z) (nxz : x ≠ z) (l1 : sFirst S W x y = true) (l2 : sFirst S W y z = true) : sFirst S W x z = true := by
  by_cases e1 : Evr W x y
  · by_cases e2 : Evr W y z
    · have e3 : Evr W x z := fun k => (e1 k).trans (e2 k)
      have w1 := evr_way c hx hy e1 nxy
      have w2 := evr_way c hy hz e2 nyz
      have w3 := evr_way c hx hz e3 nxz
      rw [sf_ever e1, tie_is w1] at l1
      rw [sf_ever e2, tie_is w2] at l2
      rw [sf_ever e3, tie_is w3]
      by_cases a : x.1 < y.1 <;> by_cases b : y.1 < z.1 <;> by_cases d : x.1 < z.1
      · rw [if_pos a] at l1; rw [if_pos d]; exact l1
      · omega
      · rw [if_pos a] at l1; rw [if_pos d]; exact l1
      · rw [if_neg b] at l2; rw [if_neg d]; exact l2
      · rw [if_neg a] at l1; rw [if_pos b] at l2; rw [l2] at l1; cases l1
      · rw [if_neg a] at l1; rw [if_pos b] at l2; rw [l2] at l1; cases l1
      · omega
      · rw [if_neg b] at l2; rw [if_neg d]; exact l2
    · obtain ⟨d, h1, h2, h3⟩ := sf_first c hy hz e2
      have q1 : ∀ i < d, qx W x i = qx W z i := fun i hi => (evr_q e1 i).trans (h1 i hi)
      have q2 : qx W x d ≠ qx W z d := fun q => h2 ((evr_q e1 d).symm.trans q)
      rw [sf_at c hx hz q1 q2, ← l2, h3]
      exact les_congr (fun _ => e1 _) (fun _ => e1 _) (evr_q e1 d) rfl
  · obtain ⟨d1, h1, h2, h3⟩ := sf_first c hx hy e1
    by_cases e2 : Evr W y z
    · have q1 : ∀ i < d1, qx W x i = qx W z i := fun i hi => (h1 i hi).trans (evr_q e2 i)
      have q2 : qx W x d1 ≠ qx W z d1 := fun q => h2 (q.trans (evr_q e2 d1).symm)
      rw [sf_at c hx hz q1 q2, ← l1, h3]
      exact les_congr (fun _ => rfl) (fun _ => rfl) rfl (evr_q e2 d1).symm
    · obtain ⟨d2, k1, k2, k3⟩ := sf_first c hy hz e2
      rcases Nat.lt_trichotomy d1 d2 with l | l | l
      · have q1 : ∀ i < d1, qx W x i = qx W z i := fun i hi => (h1 i hi).trans (k1 i (by omega))
        have q2 : qx W x d1 ≠ qx W z d1 := fun q => h2 (q.trans (k1 d1 l).symm)
        rw [sf_at c hx hz q1 q2, ← l1, h3]
        exact les_congr (fun _ => rfl) (fun _ => rfl) rfl (k1 d1 l).symm
      · subst l
        obtain ⟨t, q2⟩ := les_trans c hx hy hz h1 k1 (h3 ▸ l1) (k3 ▸ l2)
        rw [sf_at c hx hz (fun i hi => (h1 i hi).trans (k1 i hi)) q2]
        exact t
      · have q1 : ∀ i < d2, qx W x i = qx W z i := fun i hi => (h1 i (by omega)).trans (k1 i hi)
        have q2 : qx W x d2 ≠ qx W z d2 := fun q => k2 ((h1 d2 l).symm.trans q)
        obtain ⟨b1, b2⟩ := base_eq c hx hy (d := d2) fun i hi => h1 i (by omega)
        rw [sf_at c hx hz q1 q2, ← l2, k3]
        exact les_congr b1 b2 (h1 d2 l) rfl
/-! the rows of tight -/
theorem memPlace {r : Sd → Sd → Bool} {x y : Sd} : ∀ {l : List Sd}, y ∈ place r x l ↔ y = x ∨ y ∈ l
  | [] => by unfold place; simp
  | z :: l => by
    unfold place
    split
    · rw [List.mem_cons, memPlace, List.mem_cons]
      exact or_left_comm
    · rw [List.mem_cons]
theorem place_sorted (c : Cx S W m) {x : Sd} (hx : Bd W n x) : ∀ {l : List Sd}, (∀ y ∈ l, Bd W n y ∧ y ≠ x) → l.Nodup → l.Pairwise (fun a b => sFirst S W a b = true) → (place (sFirst S W) x l).Pairwise fun a b => sFirst S W a b = true
  | [], _, _, _ => by unfold place; exact List.pairwise_singleton _ _
  | y :: l, h, nd, p => by
    obtain ⟨p1, p2⟩ := List.pairwise_cons.mp p
    obtain ⟨n1, n2⟩ := List.nodup_cons.mp nd
    have hy := h y List.mem_cons_self
    unfold place
    split
    · rename_i hr
      refine List.pairwise_cons.mpr ⟨fun z hz => ?_, place_sorted c hx (fun z hz => h z (List.mem_cons_of_mem _ hz)) n2 p2⟩
      rcases memPlace.mp hz with rfl | hz
      · exact hr
      · exact p1 z hz
    · rename_i hr
      have hxy : sFirst S W x y = true := by
        rw [sf_flip c hx hy.1 (Ne.symm hy.2)]
        cases q : sFirst S W y x with
        | true => exact absurd q hr
        | false => rfl
      refine List.pairwise_cons.mpr ⟨fun z hz => ?_, p⟩
      rcases List.mem_cons.mp hz with rfl | hz
      · exact hxy
      · have hz' := h z (List.mem_cons_of_mem _ hz)
        exact sf_trans c hx hy.1 hz'.1 (Ne.symm hy.2) (fun e => n1 (by rw [e]; exact hz)) (Ne.symm hz'.2) hxy (p1 z hz)
theorem order_snoc' (S : List Nat) (W : Ws) (xs : List Sd) (x : Sd) : orderOf S W (xs ++ [x]) = place (sFirst S W) x (orderOf S W xs) := by
  unfold orderOf
  rw [List.foldl_append]
  rfl
theorem place_form {r : Sd → Sd → Bool} {x : Sd} : ∀ l : List Sd, ∃ k, k ≤ l.length ∧ place r x l = l.take k ++ [x] ++ l.drop k
  | [] => ⟨0, Nat.le_refl 0, rfl⟩
  | y :: l => by
    unfold place
    split
    · obtain ⟨k, hk, e⟩ := place_form (r := r) (x := x) l
      exact ⟨k + 1, by rw [List.length_cons]; omega, by rw [e]; rfl⟩
    · exact ⟨0, Nat.zero_le _, rfl⟩
theorem order_in : ∀ xs : List Sd, orderOf S W xs ∈ everyOrder xs := by
  refine snocInd ?_ fun xs x ih => ?_
  · show [] ∈ [[]]
    simp
  · rw [order_snoc', eo_snoc]
    obtain ⟨k, hk, e⟩ := place_form (r := sFirst S W) (x := x) (orderOf S W xs)
    exact List.mem_flatMap.mpr ⟨_, ih, List.mem_map.mpr ⟨k, List.mem_range.mpr (by omega), e.symm⟩⟩
theorem order_sorted (c : Cx S W m) : ∀ xs : List Sd, xs.Nodup → (∀ x ∈ xs, Bd W n x) → (orderOf S W xs).Pairwise fun a b => sFirst S W a b = true := by
  refine snocInd ?_ fun xs x ih => ?_
  · intro _ _
    exact List.Pairwise.nil
  · intro nd h
    obtain ⟨n1, n2, n3⟩ := List.nodup_append.mp nd
    rw [order_snoc']
    have pm := eo_perm xs _ (order_in (S := S) (W := W) xs)
    refine place_sorted c (h x (by simp)) (fun y hy => ?_) (pm.nodup_iff.mpr n1) (ih n1 fun y hy => h y (List.mem_append_left _ hy))
    have hy' := pm.mem_iff.mp hy
    exact ⟨h y (List.mem_append_left _ hy'), fun e => n3 y hy' x (by simp) e⟩
theorem tight_row {n : Nat} (h : n < S.length / 2) : rowAt (tightM S W) n = orderOf S W (throughN W n) := by
  unfold rowAt tightM
  rw [List.getD_eq_getElem?_getD, List.getElem?_map, List.getElem?_range h]
  rfl
theorem bd_through {s : Sd} : s ∈ throughN W n ↔ Bd W n s := mem_through
theorem tight_order (c : Cx S W m) (hn : n < S.length / 2) {x y : Sd} (hx : Bd W n x) (hy : Bd W n y) (ne : x ≠ y) : (rowAt (tightM S W) n).idxOf x < (rowAt (tightM S W) n).idxOf y ↔ sFirst S W x y = true := by
  rw [tight_row hn]
  have srt := order_sorted c (n := n) (throughN W n) (nodup_through W n) fun x hx => bd_through.mp hx
  have pm := eo_perm (throughN W n) _ (order_in (S := S) (W := W) (throughN W n))
  have hxm : x ∈ orderOf S W (throughN W n) := pm.mem_iff.mpr (bd_through.mpr hx)
  have hym : y ∈ orderOf S W (throughN W n) := pm.mem_iff.mpr (bd_through.mpr hy)
  generalize orderOf S W (throughN W n) = R at *
  have key : ∀ {x y : Sd}, x ∈ R → y ∈ R → R.idxOf x < R.idxOf y → sFirst S W x y = true := by
    intro x y hx hy l
    have h1 := List.idxOf_lt_length_iff.mpr hx
    have h2 := List.idxOf_lt_length_iff.mpr hy
    have := List.pairwise_iff_getElem.mp srt _ _ h1 h2 l
    rwa [List.getElem_idxOf, List.getElem_idxOf] at this
  refine ⟨key hxm hym, fun h => ?_⟩
  rcases Nat.lt_trichotomy (R.idxOf x) (R.idxOf y) with l | l | l
  · exact l
  · have h1 := List.getElem_idxOf (List.idxOf_lt_length_iff.mpr hxm)
    have h2 := List.getElem_idxOf (List.idxOf_lt_length_iff.mpr hym)
    exact absurd (by rw [← h1, ← h2]; simp only [l]) ne
  · have := key hym hxm l
    rw [sf_flip c hx hy ne, this] at h
    cases h
end
end Rw


set_option Elab.async false
set_option linter.all false
namespace Rw
/-- a line of strands, read off in its bands -/
structure Ml (W : Ws) (u : Int → Nat) (x : Int → Sd) : Prop where
  ok : ∀ t, isS W (x t)
  lw : ∀ t, low (lat W (x t) 0) = low (u t)
  sm : ∀ t, 97 ≤ u t → ∀ k, met W (x t) k = u (t + k)
  bg : ∀ t, ¬ 97 ≤ u t → ∀ k, met W (x t) k = bk (u (t - k))
section
variable {S : List Nat} {W : Ws} {m : Nat}
theorem small_bk' {c : Nat} (h : Lt c) : 97 ≤ bk c ↔ ¬ 97 ≤ c := by unfold Lt at h; unfold bk; split <;> omega
theorem Cx.ml (c : Cx S W m) {x : Sd} (h : isS W x) : Ml W (fwd W x) (fwdS W x) where
  ok := mvS h
  lw := fun t => by show low (lat W (mv W x t) 0) = low (lat W x t); rw [latMv, Int.add_zero]
  sm := fun t ht k => by
    have ht' : 97 ≤ lat W x t := ht
    show met W (mv W x t) k = lat W x (t + k)
    unfold met
    rw [latMv, Int.add_zero, if_pos ht', latMv]
  bg := fun t ht k => by
    have ht' : ¬ 97 ≤ lat W x t := ht
    show met W (mv W x t) k = bk (lat W x (t - k))
    unfold met
    rw [latMv, Int.add_zero, if_neg ht', latMv]
    rfl
theorem Cx.mlB (c : Cx S W m) {y : Sd} (h : isS W y) : Ml W (bwd W y) (bwdS W y) where
  ok := fun t => mvS h _
  lw := fun t => by show low (lat W (mv W y (-t)) 0) = low (bk (lat W y (-t))); rw [latMv, Int.add_zero, low_bk (c.lt h _)]
  sm := fun t ht k => by
    have ht' : ¬ 97 ≤ lat W y (-t) := (small_bk' (c.lt h _)).mp ht
    show met W (mv W y (-t)) k = bk (lat W y (-(t + k)))
    unfold met
    rw [latMv, Int.add_zero, if_neg ht', latMv, show -t + -k = -(t + k) by omega]
  bg := fun t ht k => by
    have ht' : 97 ≤ lat W y (-t) := Classical.byContradiction fun z => ht ((small_bk' (c.lt h _)).mpr z)
    show met W (mv W y (-t)) k = bk (bk (lat W y (-(t - k))))
    unfold met
    rw [latMv, Int.add_zero, if_pos ht', latMv, bk_bk (c.lt h _), show -t + k = -(t - k) by omega]
theorem Cx.half (c : Cx S W m) : S.length / 2 = m := by rw [c.hS.len]; omega
theorem tight_dr (c : Cx S W m) : Dr S W m (tightM S W) := ⟨fun k hk => by rw [tight_row (by rw [c.half]; exact hk)]; exact eo_perm _ _ (order_in _)⟩
variable {u v : Int → Nat} {x y : Int → Sd}
theorem ml_bd (c : Cx S W m) (L : Line S (ThW S W) u x) (M : Ml W u x) (t : Int) : Bd W (low (u t) - 97) (x t) := ⟨M.ok t, by rw [M.lw t]; have := (c.low_in (L.mem t)).1; omega⟩
/-- the order in a band of tight -/
theorem ord_sf (c : Cx S W m) (L : Line S (ThW S W) u x) (L' : Line S (ThW S W) v y) (M : Ml W u x) (M' : Ml W v y) {t : Int} (e : u t = v t) (ne : x t ≠ y t) : ordL (PD S (tightM S W)) u x y t ↔ (if 97 ≤ u t then sFirst S W (x t) (y t) else sFirst S W (y t) (x t)) = true := by
  have d := tight_dr c
  have hl := c.low_in (L.mem t)
  have b1 := ml_bd c L M t
  have b2 : Bd W (low (u t) - 97) (y t) := by rw [e]; exact ml_bd c L' M' t
  have h1 := L.th t
  have h2 : ThW S W (u t) (y t) := by rw [e]; exact L'.th t
  have hn : low (u t) - 97 < S.length / 2 := by rw [c.half]; exact hl.2
  unfold ordL
  by_cases q : 97 ≤ u t
  · rw [if_pos q, PD_small d c h1 h2 q]
    exact tight_order c hn b1 b2 ne
  · rw [if_neg q, PD_big d c h1 h2 q]
    exact tight_order c hn b2 b1 ne.symm
/-- .. on a stretch: it follows the nearer parting -/
theorem ord_str (c : Cx S W m) (L : Line S (ThW S W) u x) (L' : Line S (ThW S W) v y) (M : Ml W u x) (M' : Ml W v y) {k : Nat} (q : Str u v k) (ne : ∀ t, 0 ≤ t → t < (k : Int) → x t ≠ y t) {t : Int} (t0 : 0 ≤ t) (t1 : t < (k : Int)) :
    ordL (PD S (tightM S W)) u x y t ↔ if (97 ≤ u t ∧ (k : Int) - 1 - t ≤ t) ∨ (¬ 97 ≤ u t ∧ ¬ t ≤ (k : Int) - 1 - t) then nd S u v k else bg S u v := by
  have hk := q.pos
  have r1 := L.red ((k : Int) - 1)
  have r2 := L'.red ((k : Int) - 1)
  have r3 := L.red (-1)
  have r4 := L'.red (-1)
  rw [show (k : Int) - 1 + 1 = k by omega] at r1 r2
  rw [show (-1 : Int) + 1 = 0 by omega] at r3 r4
  have e1 := q.eq ((k : Int) - 1) (by omega) (by omega)
  have e0 := q.eq 0 (by omega) hk
  rw [← e1] at r2
  rw [← e0] at r4
  have hb : bk (u (-1)) ≠ bk (v (-1)) := fun z => q.beg (bk_inj (L.lt _) (L'.lt _) z)
  have cN : cf S (bk (u ((k : Int) - 1))) (u k) (v k) = true ↔ nd S u v k := cf_cyc c.hS.nd (L.memB _) (L.mem _) (L'.mem _) r1.symm r2.symm q.fin
  have cB : cf S (u 0) (bk (v (-1))) (bk (u (-1))) = true ↔ bg S u v := by
    unfold bg
    rw [← cf_cyc c.hS.nd (L.mem 0) (L.memB (-1)) (L'.memB (-1)) r3 r4 hb, cf_flip c.hS.nd (L.mem 0) (L'.memB (-1)) (L.memB (-1)) hb.symm]
    cases cf S (u 0) (bk (u (-1))) (bk (v (-1))) <;> simp
  have eT := q.eq t t0 t1
  have b1 := ml_bd c L M t
  have b2 : Bd W (low (u t) - 97) (y t) := by rw [eT]; exact ml_bd c L' M' t
  rw [ord_sf c L L' M M' eT (ne t t0 t1)]
  by_cases hs : 97 ≤ u t
  · have hs' : 97 ≤ v t := by rw [← eT]; exact hs
    have m1 := M.sm t hs
    have m2 := M'.sm t hs'
    have dv : Dv W (x t) (y t) ((k : Int) - 1 - t).toNat t.toNat := by
      refine ⟨fun j h1 h2 => ?_, ?_, ?_⟩
      · rw [m1, m2]
        exact q.eq _ (by omega) (by omega)
      · rw [m1, m2, show t + ((((k : Int) - 1 - t).toNat : Int) + 1) = k by omega]
        exact q.fin
      · rw [m1, m2, show t + (-(t.toNat : Int) - 1) = -1 by omega]
        exact q.beg
    rw [if_pos hs, sf_dv c b1 b2 dv]
    by_cases w : (k : Int) - 1 - t ≤ t
    · rw [if_pos (Or.inl ⟨hs, w⟩), if_pos (by omega), m1, m1, m2, show t + (((k : Int) - 1 - t).toNat : Int) = (k : Int) - 1 by omega, show t + ((((k : Int) - 1 - t).toNat : Int) + 1) = (k : Int) by omega]
      exact cN
    · rw [if_neg (show ¬ ((97 ≤ u t ∧ (k : Int) - 1 - t ≤ t) ∨ (¬ 97 ≤ u t ∧ ¬ t ≤ (k : Int) - 1 - t)) by omega), if_neg (by omega), m1, m1, m2, show t + -(t.toNat : Int) = 0 by omega, show t + (-(t.toNat : Int) - 1) = -1 by omega]
      exact cB
  · have hs' : ¬ 97 ≤ v t := by rw [← eT]; exact hs
    have m1 := M.bg t hs
    have m2 := M'.bg t hs'
    have dv : Dv W (y t) (x t) t.toNat ((k : Int) - 1 - t).toNat := by
      refine ⟨fun j h1 h2 => ?_, ?_, ?_⟩
      · rw [m1, m2, q.eq (t - j) (by omega) (by omega)]
      · rw [m1, m2, show t - ((t.toNat : Int) + 1) = -1 by omega]
        exact hb.symm
      · rw [m1, m2, show t - (-(((k : Int) - 1 - t).toNat : Int) - 1) = k by omega]
        exact fun z => q.fin (bk_inj (L.lt _) (L'.lt _) z.symm)
    rw [if_neg hs, sf_dv c b2 b1 dv]
    by_cases w : t ≤ (k : Int) - 1 - t
    · rw [if_neg (show ¬ ((97 ≤ u t ∧ (k : Int) - 1 - t ≤ t) ∨ (¬ 97 ≤ u t ∧ ¬ t ≤ (k : Int) - 1 - t)) by omega), if_pos (by omega), m1, m2, m2, show t - (t.toNat : Int) = 0 by omega, show t - ((t.toNat : Int) + 1) = -1 by omega, bk_bk (L'.lt _), ← e0]
      exact cB
    · rw [if_pos (Or.inr ⟨hs, w⟩), if_neg (by omega), m1, m2, m2, show t - -(((k : Int) - 1 - t).toNat : Int) = (k : Int) - 1 by omega, show t - (-(((k : Int) - 1 - t).toNat : Int) - 1) = (k : Int) by omega, bk_bk (L.lt _), bk_bk (L'.lt _), ← e1]
      exact cN
/-- in tight a stretch has one crossing at most, and only with unlike sides -/
theorem tight_one (c : Cx S W m) (L : Line S (ThW S W) u x) (L' : Line S (ThW S W) v y) (M : Ml W u x) (M' : Ml W v y) {k : Nat} (q : Str u v k) (ne : ∀ t, 0 ≤ t → t < (k : Int) → x t ≠ y t) : ∃ K : Int, ∀ t, -1 ≤ t → t < (k : Int) → crossL (PD S (tightM S W)) u v x y t = true → t + 1 = K ∧ Tw S u v k := by
  have hk := q.pos
  have P := pts (tight_dr c) c
  have o := fun t t0 t1 => ord_str c L L' M M' q ne (t := t) t0 t1
  by_cases h : k % 2 = 1 ∧ 97 ≤ u (((k : Int) - 1) / 2)
  · refine ⟨((k : Int) - 1) / 2, fun t t0 t1 ht => cross_one P L L' q ne (by omega) (by omega) (fun t a b => ?_) (fun t a b => ?_) t0 t1 ht⟩
    · rw [o t a (by omega), if_neg (by omega)]
    · by_cases e : t = ((k : Int) - 1) / 2
      · have := h.2
        rw [← e] at this
        rw [o t (by omega) b, if_pos (by omega)]
      · rw [o t (by omega) b, if_pos (by omega)]
  · refine ⟨((k : Int) + 1) / 2, fun t t0 t1 ht => cross_one P L L' q ne (by omega) (by omega) (fun t a b => ?_) (fun t a b => ?_) t0 t1 ht⟩
    · by_cases e : k % 2 = 1 ∧ t = ((k : Int) - 1) / 2
      · have : ¬ 97 ≤ u t := fun z => h ⟨e.1, by rw [← e.2]; exact z⟩
        rw [o t a (by omega), if_neg (by omega)]
      · rw [o t a (by omega), if_neg (by omega)]
    · rw [o t (by omega) b, if_pos (by omega)]
/-! lines that go alike for ever don't cross in tight -/
theorem ever_no (c : Cx S W m) (L : Line S (ThW S W) u x) (L' : Line S (ThW S W) v y) (e : ∀ t, u t = v t) (ne : ∀ t, x t ≠ y t) {A : Prop} (h : ∀ t, ordL (PD S (tightM S W)) u x y t ↔ A) (t : Int) : crossL (PD S (tightM S W)) u v x y t = true → False := fun z => by
  rw [cross_mid (pts (tight_dr c) c) L L' (e t) (e (t + 1)) (ne t) (ne (t + 1)), h t, h (t + 1)] at z
  exact z Iff.rfl
theorem ml_evr (M : Ml W u x) (M' : Ml W v y) (e : ∀ t, u t = v t) (t : Int) : Evr W (x t) (y t) := fun k => by
  by_cases hs : 97 ≤ u t
  · rw [M.sm t hs, M'.sm t (by rw [← e]; exact hs), e]
  · rw [M.bg t hs, M'.bg t (by rw [← e]; exact hs), e]
theorem evr_symm {x y : Sd} (h : Evr W x y) : Evr W y x := fun k => (h k).symm
theorem ever_f_no (c : Cx S W m) {s r : Sd} (hs : isS W s) (hr : isS W r) (hw : s.1 ≠ r.1) (e : ∀ t, fwd W s t = fwd W r t) (z : cr S W (tightM S W) s r = true) : False := by
  have L := c.line hs
  have L' := c.line hr
  have M := c.ml hs
  have M' := c.ml hr
  have ne : ∀ t, fwdS W s t ≠ fwdS W r t := fun t z => by
    have z' : mv W s t = mv W r t := z
    have z2 := congrArg Prod.fst z'
    exact hw z2
  refine ever_no c L L' e ne (A := s.1 < r.1) (fun t => ?_) 0 (by rw [crossF c hs hr, mv0 W hs, mv0 W hr]; exact z)
  have ev := ml_evr M M' e t
  have w1 : (fwdS W s t).1 ≠ (fwdS W r t).1 := hw
  have l1 : lat W (fwdS W s t) 0 = fwd W s t := by show lat W (mv W s t) 0 = _; rw [latMv, Int.add_zero]
  have l2 : lat W (fwdS W r t) 0 = fwd W s t := by rw [e]; show lat W (mv W r t) 0 = _; rw [latMv, Int.add_zero]
  rw [ord_sf c L L' M M' (e t) (ne t), sf_ever ev, sf_ever (evr_symm ev), tie_is w1, tie_is w1.symm, l1, l2]
  show (if _ then (if s.1 < r.1 then _ else _) else (if r.1 < s.1 then _ else _)) = true ↔ _
  by_cases q : 97 ≤ fwd W s t <;> by_cases p : s.1 < r.1
  · rw [if_pos q, if_pos p]
    simp [q, p]
  · rw [if_pos q, if_neg p]
    simp [q, p]
  · rw [if_neg q, if_neg (by omega)]
    simp [q, p]
  · rw [if_neg q, if_pos (by omega)]
    simp [q, p]
theorem ever_b_no (c : Cx S W m) {s r : Sd} (hs : isS W s) (hr : isS W r) (hw : s.1 ≠ r.1) (e : ∀ t, fwd W s t = bwd W r t) (z : cr S W (tightM S W) s (mv W r (-1)) = true) : False := by
  have L := c.line hs
  have L' := c.lineB hr
  have M := c.ml hs
  have M' := c.mlB hr
  have ne : ∀ t, fwdS W s t ≠ bwdS W r t := fun t z => by
    have z' : mv W s t = mv W r (-t) := z
    have z2 := congrArg Prod.fst z'
    exact hw z2
  refine ever_no c L L' e ne (A := True) (fun t => ?_) 0 (by rw [crossB c hs hr, mv0 W hs]; exact z)
  have ev := ml_evr M M' e t
  have w1 : (fwdS W s t).1 ≠ (bwdS W r t).1 := hw
  have l1 : lat W (fwdS W s t) 0 = fwd W s t := by show lat W (mv W s t) 0 = _; rw [latMv, Int.add_zero]
  have l2 : lat W (bwdS W r t) 0 = bk (fwd W s t) := by rw [e]; show lat W (mv W r (-t)) 0 = bk (bk (lat W r (-t))); rw [latMv, Int.add_zero, bk_bk (c.lt hr _)]
  have lS : 97 ≤ bk (fwd W s t) ↔ ¬ 97 ≤ fwd W s t := small_bk' (L.lt t)
  rw [ord_sf c L L' M M' (e t) (ne t), sf_ever ev, sf_ever (evr_symm ev), tie_is w1, tie_is w1.symm, l1, l2]
  show (if _ then (if s.1 < r.1 then _ else _) else (if r.1 < s.1 then _ else _)) = true ↔ _
  by_cases q : 97 ≤ fwd W s t <;> by_cases p : s.1 < r.1
  · rw [if_pos q, if_pos p]
    simp [q]
  · rw [if_pos q, if_neg p]
    simp [q, lS]
  · rw [if_neg q, if_neg (by omega)]
    simp [q]
  · rw [if_neg q, if_pos (by omega)]
    simp [q, lS]
/-- around a place where two lines agree lies a stretch, unless they agree for ever -/
theorem stretch {u v : Int → Nat} {N : Nat} (hE : ∀ a : Int, (∀ t, a ≤ t → t < a + (N : Int) → u t = v t) → ∀ t, u t = v t) (no : ¬ ∀ t, u t = v t) {t0 : Int} (h0 : u t0 = v t0) :
    ∃ (A : Int) (k : Nat), A ≤ t0 ∧ t0 < A + (k : Int) ∧ k ≤ N ∧ (∀ t, A ≤ t → t < A + (k : Int) → u t = v t) ∧ u (A - 1) ≠ v (A - 1) ∧ u (A + k) ≠ v (A + k) := by
  obtain ⟨_, a2, a3, a4⟩ := runUp_spec (fun j => decide (u (t0 + (j : Int)) = v (t0 + (j : Int)))) N 0
  obtain ⟨_, b2, b3, b4⟩ := runUp_spec (fun j => decide (u (t0 - (j : Int)) = v (t0 - (j : Int)))) N 0
  generalize runUp (fun j => decide (u (t0 + (j : Int)) = v (t0 + (j : Int)))) N 0 = a at *
  generalize runUp (fun j => decide (u (t0 - (j : Int)) = v (t0 - (j : Int)))) N 0 = b at *
  have up : ∀ t, t0 ≤ t → t < t0 + (a : Int) → u t = v t := fun t h1 h2 => by
    have := of_decide_eq_true (a3 (t - t0).toNat (by omega) (by omega))
    rw [show t0 + ((t - t0).toNat : Int) = t by omega] at this
    exact this
  have dn : ∀ t, t0 - (b : Int) < t → t ≤ t0 → u t = v t := fun t h1 h2 => by
    have := of_decide_eq_true (b3 (t0 - t).toNat (by omega) (by omega))
    rw [show t0 - ((t0 - t).toNat : Int) = t by omega] at this
    exact this
  have la : a < N := by
    rcases Nat.lt_or_ge a N with l | l
    · exact l
    · exact absurd (hE t0 fun t h1 h2 => up t h1 (by omega)) no
  have lb : b < N := by
    rcases Nat.lt_or_ge b N with l | l
    · exact l
    · exact absurd (hE (t0 - (b : Int) + 1) fun t h1 h2 => by
        rcases Int.le_total t t0 with l | l
        · exact dn t (by omega) l
        · exact up t l (by
            have : a ≠ 0 ∨ a = 0 := by omega
            rcases this with h | h
            · omega
            · have := of_decide_eq_false (a4 (by omega))
              rw [h] at this
              exact absurd (by simpa using h0) this)) no
  have fa := of_decide_eq_false (a4 (by omega))
  have fb := of_decide_eq_false (b4 (by omega))
  have a0 : a ≠ 0 := fun z => by rw [z] at fa; exact fa (by simpa using h0)
  have b0 : b ≠ 0 := fun z => by rw [z] at fb; exact fb (by simpa using h0)
  have all : ∀ t, t0 - (b : Int) + 1 ≤ t → t < t0 + (a : Int) → u t = v t := fun t h1 h2 => by
    rcases Int.le_total t t0 with l | l
    · exact dn t (by omega) l
    · exact up t l h2
  refine ⟨t0 - (b : Int) + 1, a + b - 1, by omega, by omega, ?_, fun t h1 h2 => all t h1 (by omega), ?_, ?_⟩
  · rcases Nat.lt_or_ge N (a + b - 1) with l | l
    · exact absurd (hE (t0 - (b : Int) + 1) fun t h1 h2 => all t h1 (by omega)) no
    · exact l
  · rw [show t0 - (b : Int) + 1 - 1 = t0 - (b : Int) by omega]
    exact fb
  · rw [show t0 - (b : Int) + 1 + ((a + b - 1 : Nat) : Int) = t0 + (a : Int) by omega]
    exact fa
/-! the links that the program lists -/
theorem run_eq {f : Nat → Bool} {N k : Nat} (h1 : ∀ j < k, f j = true) (h2 : f k = false) (h3 : k ≤ N) : runUp f N 0 = k := by
  obtain ⟨_, b, c, d⟩ := runUp_spec f N 0
  generalize runUp f N 0 = r at *
  rcases Nat.lt_trichotomy r k with l | l | l
  · have := h1 r l
    rw [d (by omega)] at this
    cases this
  · exact l
  · have := c k (Nat.zero_le _) l
    rw [h2] at this
    cases this
theorem linksL_mem {i j : Nat} {l : Lk} : l ∈ linksL S W i j ↔ ∃ p q, p < (wy W i).length ∧ q < (wy W j).length ∧ l ∈ linksOf S W (i, p) (j, q) := by
  unfold linksL
  rw [List.mem_flatMap]
  constructor
  · rintro ⟨p, hp, h⟩
    obtain ⟨q, hq, h⟩ := List.mem_flatMap.mp h
    exact ⟨p, q, List.mem_range.mp hp, List.mem_range.mp hq, h⟩
  · rintro ⟨p, q, hp, hq, h⟩
    exact ⟨p, List.mem_range.mpr hp, List.mem_flatMap.mpr ⟨q, List.mem_range.mpr hq, h⟩⟩
theorem linksOf_xy {x y : Sd} {l : Lk} (h : l ∈ linksOf S W x y) : lkX l = x ∧ lkY l = y ∧ isLink S W l = true := by
  unfold linksOf at h
  obtain ⟨h1, h2⟩ := List.mem_filter.mp h
  rcases (by simpa using h1 : l = Lk.beside x y ∨ l = .along x y (runAlong W x y) ∨ l = .against x y (runAgainst W x y)) with rfl | rfl | rfl <;> exact ⟨rfl, rfl, h2⟩
theorem in_B {x y : Sd} (hx : isS W x) (hy : isS W y) (h : LkB S W x y) : Lk.beside x y ∈ linksL S W x.1 y.1 :=
  linksL_mem.mpr ⟨x.2, y.2, hx.2, hy.2, List.mem_filter.mpr ⟨by simp, link_B.mpr h⟩⟩
theorem in_A (c : Cx S W m) {x y : Sd} (hx : isS W x) (hy : isS W y) {k : Nat} (h : LkA S W x y k) : Lk.along x y k ∈ linksL S W x.1 y.1 := by
  have e : runAlong W x y = k := run_eq (fun j hj => decide_eq_true (h.st.eq j (by omega) (by omega))) (decide_eq_false h.st.fin) h.le
  exact linksL_mem.mpr ⟨x.2, y.2, hx.2, hy.2, List.mem_filter.mpr ⟨by rw [← e]; simp, (link_A c hx hy).mpr h⟩⟩
theorem in_G (c : Cx S W m) {x y : Sd} (hx : isS W x) (hy : isS W y) {k : Nat} (h : LkG S W x y k) : Lk.against x y k ∈ linksL S W x.1 y.1 := by
  have e : runAgainst W x y = k := run_eq (fun j hj => decide_eq_true (h.st.eq j (by omega) (by omega))) (decide_eq_false h.st.fin) h.le
  exact linksL_mem.mpr ⟨x.2, y.2, hx.2, hy.2, List.mem_filter.mpr ⟨by rw [← e]; simp, (link_G c hx hy).mpr h⟩⟩
theorem room_mv (s r : Sd) (a b : Int) : room W (mv W s a) (mv W r b) = room W s r := rfl
theorem ne_G (c : Cx S W m) {x y : Sd} (hx : isS W x) (hy : isS W y) {k : Nat} (q : Str (fwd W x) (bwd W y) k) : x ≠ mv W y (1 - (k : Int)) := fun z => by
  have hk := q.pos
  have e : ∀ t, 0 ≤ t → t < (k : Int) → lat W x t = bk (lat W x ((k : Int) - 1 - t)) := fun t h1 h2 => by
    have := q.eq t h1 h2
    have e2 : lat W x ((k : Int) - 1 - t) = lat W y (-t) := by
      have := congrArg (fun s => lat W s ((k : Int) - 1 - t)) z
      simp only [latMv] at this
      rw [this, show 1 - (k : Int) + ((k : Int) - 1 - t) = -t by omega]
    rw [e2]
    exact this
  rcases (by omega : k % 2 = 0 ∨ k % 2 = 1) with p | p
  · have := e ((k : Int) / 2) (by omega) (by omega)
    have r := c.red hx ((k : Int) / 2 - 1)
    rw [show (k : Int) - 1 - (k : Int) / 2 = (k : Int) / 2 - 1 by omega] at this
    rw [show (k : Int) / 2 - 1 + 1 = (k : Int) / 2 by omega] at r
    exact r this
  · have := e (((k : Int) - 1) / 2) (by omega) (by omega)
    rw [show (k : Int) - 1 - ((k : Int) - 1) / 2 = ((k : Int) - 1) / 2 by omega] at this
    exact bk_ne (c.lt hx _) this.symm
theorem ne_str_G (c : Cx S W m) {x y : Sd} (hx : isS W x) (hy : isS W y) {k : Int} (q : Str (fwd W x) (bwd W y) k) : ∀ t, 0 ≤ t → t < k → fwdS W x t ≠ bwdS W y t := fun t h0 h1 z => by
  have e : lat W x t = bk (lat W y (-t)) := q.eq t h0 h1
  have z' : mv W x t = mv W y (-t) := z
  have e2 : lat W x t = lat W y (-t) := by
    have := congrArg (fun s => lat W s 0) z'
    simpa [latMv] using this
  rw [e2] at e
  exact bk_ne (c.lt hy _) e.symm
/-- in tight every crossing belongs to a link -/
theorem tight_link (c : Cx S W m) {p : Sd × Sd} (h : Cr S W (tightM S W) p) (hw : p.1.1 ≤ p.2.1) : ∃ l, l ∈ linksL S W p.1.1 p.2.1 ∧ Rl W l p := by
  obtain ⟨s, r⟩ := p
  have hs : isS W s := h.h1
  have hr : isS W r := h.h2
  have hlt : slt s r = true := h.lt
  have hcr : cr S W (tightM S W) s r = true := h.cr
  have hne := slt_ne hlt
  have hcr' : cr S W (tightM S W) r s = true := by rw [cr_symm (tight_dr c) c hr hs hne.symm]; exact hcr
  by_cases hA : shA W (s, r)
  · have no : ¬ ∀ t, fwd W s t = fwd W r t := fun z => ever_f_no c hs hr (fun e => hne (c.same_way hs hr e z)) z hcr
    have main : ∀ t0 : Int, 0 ≤ t0 → t0 ≤ 1 → fwd W s t0 = fwd W r t0 → ∃ l, l ∈ linksL S W s.1 r.1 ∧ Rl W l (s, r) := by
      intro t0 g0 g1 ht0
      obtain ⟨A, k, A1, A2, A3, A4, A5, A6⟩ := stretch (N := room W s r) (fun a ha => ever_f hs hr ha) no ht0
      have hx := mvS hs A
      have hy := mvS hr A
      have q : Str (fwd W (mv W s A)) (fwd W (mv W r A)) k := by
        refine ⟨by omega, fun t h1 h2 => ?_, ?_, ?_⟩
        · show lat W (mv W s A) t = lat W (mv W r A) t
          rw [latMv, latMv]
          exact A4 _ (by omega) (by omega)
        · show lat W (mv W s A) (-1) ≠ lat W (mv W r A) (-1)
          rw [latMv, latMv]
          exact A5
        · show lat W (mv W s A) k ≠ lat W (mv W r A) k
          rw [latMv, latMv]
          exact A6
      have nxy : mv W s A ≠ mv W r A := fun z => hne (mv_inj hs hr z)
      have b1 : mv W (mv W s A) (-A) = s := by rw [mvMv W hs, show A + -A = 0 by omega, mv0 W hs]
      have b2 : mv W (mv W r A) (-A) = r := by rw [mvMv W hr, show A + -A = 0 by omega, mv0 W hr]
      rcases slt_or nxy with l | l
      · obtain ⟨K, hK⟩ := tight_one c (c.line hx) (c.line hy) (c.ml hx) (c.ml hy) q fun t _ _ z => nxy (mv_inj hx hy z)
        have tw := (hK (-A) (by omega) (by omega) (by rw [crossF c hx hy, b1, b2]; exact hcr)).2
        exact ⟨.along (mv W s A) (mv W r A) k, in_A c hx hy ⟨l, A3, q, tw⟩, -A, by omega, by omega, .inl (by rw [b1, b2])⟩
      · have hww : s.1 = r.1 := by
          unfold slt at l
          have l2 := of_decide_eq_true l
          have e1 : (mv W s A).1 = s.1 := rfl
          have e2 : (mv W r A).1 = r.1 := rfl
          have hw' : s.1 ≤ r.1 := hw
          omega
        obtain ⟨K, hK⟩ := tight_one c (c.line hy) (c.line hx) (c.ml hy) (c.ml hx) (str_symm q) fun t _ _ z => nxy (mv_inj hx hy z.symm)
        have tw := (hK (-A) (by omega) (by omega) (by rw [crossF c hy hx, b1, b2]; exact hcr')).2
        have mem := in_A c hy hx (k := k) ⟨l, by have : room W (mv W r A) (mv W s A) = room W s r := Nat.add_comm _ _; rw [this]; exact A3, str_symm q, tw⟩
        have em : linksL S W (mv W r A).1 (mv W s A).1 = linksL S W s.1 r.1 := by
          show linksL S W r.1 s.1 = linksL S W s.1 r.1
          rw [hww]
        exact ⟨.along (mv W r A) (mv W s A) k, by rw [← em]; exact mem, -A, by omega, by omega, .inr (by rw [b1, b2])⟩
    rcases hA with z | z
    · exact main 0 (by omega) (by omega) z
    · exact main 1 (by omega) (by omega) z
  · by_cases hG : shG W (s, r)
    · have hr1 := mvS hr 1
      have b0 : mv W (mv W r 1) (-1) = r := by rw [mvMv W hr, show (1 : Int) + -1 = 0 by omega, mv0 W hr]
      have no : ¬ ∀ t, fwd W s t = bwd W (mv W r 1) t := fun z => ever_b_no c hs hr1 (fun e => c.not_back hs e z) z (by rw [b0]; exact hcr)
      have main : ∀ t0 : Int, 0 ≤ t0 → t0 ≤ 1 → fwd W s t0 = bwd W (mv W r 1) t0 → ∃ l, l ∈ linksL S W s.1 r.1 ∧ Rl W l (s, r) := by
        intro t0 g0 g1 ht0
        obtain ⟨A, k, A1, A2, A3, A4, A5, A6⟩ := stretch (N := room W s r) (fun a ha => ever_b hs hr1 ha) no ht0
        have hx := mvS hs A
        have hy := mvS hr1 (-A)
        have vt : ∀ t, bwd W (mv W (mv W r 1) (-A)) t = bwd W (mv W r 1) (A + t) := fun t => by
          show bk (lat W (mv W (mv W r 1) (-A)) (-t)) = bk (lat W (mv W r 1) (-(A + t)))
          rw [latMv, show -A + -t = -(A + t) by omega]
        have ut : ∀ t, fwd W (mv W s A) t = fwd W s (A + t) := fun t => latMv W s A t
        have q : Str (fwd W (mv W s A)) (bwd W (mv W (mv W r 1) (-A))) k := by
          refine ⟨by omega, fun t h1 h2 => ?_, ?_, ?_⟩
          · rw [ut, vt]
            exact A4 _ (by omega) (by omega)
          · rw [ut, vt]
            exact A5
          · rw [ut, vt]
            exact A6
        have b1 : mv W (mv W s A) (-A) = s := by rw [mvMv W hs, show A + -A = 0 by omega, mv0 W hs]
        have b2 : mv W (mv W (mv W r 1) (-A)) (A - 1) = r := by rw [mvMv W hr1, show -A + (A - 1) = -1 by omega, b0]
        have e3 : - -A - 1 = A - 1 := by omega
        rcases slt_or (ne_G c hx hy q) with l | l
        · obtain ⟨K, hK⟩ := tight_one c (c.line hx) (c.lineB hy) (c.ml hx) (c.mlB hy) q (ne_str_G c hx hy q)
          have tw := (hK (-A) (by omega) (by omega) (by rw [crossB c hx hy, e3, b1, b2]; exact hcr)).2
          exact ⟨.against (mv W s A) (mv W (mv W r 1) (-A)) k, in_G c hx hy ⟨l, A3, q, tw⟩, -A, by omega, by omega, .inl (by rw [e3, b1, b2])⟩
        · have hww : s.1 = r.1 := by
            unfold slt at l
            have l2 := of_decide_eq_true l
            have e1 : (mv W s A).1 = s.1 := rfl
            have e2 : (mv W (mv W (mv W r 1) (-A)) (1 - (k : Int))).1 = r.1 := rfl
            have hw' : s.1 ≤ r.1 := hw
            omega
          have q' := rev_G c hx hy q
          have hx1 := mvS hy (1 - (k : Int))
          have hy1 := mvS hx ((k : Int) - 1)
          have w1 : mv W (mv W (mv W (mv W r 1) (-A)) (1 - (k : Int))) ((k : Int) - 2 + A) = r := by rw [mvMv W hy, show 1 - (k : Int) + ((k : Int) - 2 + A) = A - 1 by omega, b2]
          have w2 : mv W (mv W (mv W s A) ((k : Int) - 1)) (-((k : Int) - 2 + A) - 1) = s := by rw [mvMv W hx, show (k : Int) - 1 + (-((k : Int) - 2 + A) - 1) = -A by omega, b1]
          obtain ⟨K, hK⟩ := tight_one c (c.line hx1) (c.lineB hy1) (c.ml hx1) (c.mlB hy1) q' (ne_str_G c hx1 hy1 q')
          have tw := (hK ((k : Int) - 2 + A) (by omega) (by omega) (by rw [crossB c hx1 hy1, w1, w2]; exact hcr')).2
          have l' : slt (mv W (mv W (mv W r 1) (-A)) (1 - (k : Int))) (mv W (mv W (mv W s A) ((k : Int) - 1)) (1 - (k : Int))) = true := by
            rw [mvMv W hx ((k : Int) - 1), show (k : Int) - 1 + (1 - (k : Int)) = 0 by omega, mv0 W hx]
            exact l
          have mem := in_G c hx1 hy1 (k := k) ⟨l', by
            have : room W (mv W (mv W (mv W r 1) (-A)) (1 - (k : Int))) (mv W (mv W s A) ((k : Int) - 1)) = room W s r := Nat.add_comm _ _
            rw [this]; exact A3, q', tw⟩
          have em : linksL S W (mv W (mv W (mv W r 1) (-A)) (1 - (k : Int))).1 (mv W (mv W s A) ((k : Int) - 1)).1 = linksL S W s.1 r.1 := by
            show linksL S W r.1 s.1 = linksL S W s.1 r.1
            rw [hww]
          exact ⟨.against (mv W (mv W (mv W r 1) (-A)) (1 - (k : Int))) (mv W (mv W s A) ((k : Int) - 1)) k, by rw [← em]; exact mem, (k : Int) - 2 + A, by omega, by omega, .inr (by rw [w1, w2])⟩
      rcases hG with z | z
      · refine main 0 (by omega) (by omega) ?_
        show lat W s 0 = bk (lat W (mv W r 1) (-0))
        rw [latMv]
        exact z
      · refine main 1 (by omega) (by omega) ?_
        show lat W s 1 = bk (lat W (mv W r 1) (-1))
        rw [latMv]
        exact z
    · have n2 : bk (lat W s 0) ≠ bk (lat W r 0) := fun z => hA (.inl (bk_inj (c.lt hs 0) (c.lt hr 0) z))
      have n3 : bk (lat W s 0) ≠ lat W r 1 := fun z => hG (.inl (by show lat W s 0 = bk (lat W r 1); rw [← z, bk_bk (c.lt hs 0)]))
      have n4 : lat W s 1 ≠ bk (lat W r 0) := fun z => hG (.inr z)
      have n5 : lat W s 1 ≠ lat W r 1 := fun z => hA (.inr z)
      have n1 : bk (lat W s 0) ≠ lat W s 1 := by have := c.red hs 0; rw [show (0 : Int) + 1 = 1 by omega] at this; exact this.symm
      have n6 : bk (lat W r 0) ≠ lat W r 1 := by have := c.red hr 0; rw [show (0 : Int) + 1 = 1 by omega] at this; exact this.symm
      have P := pts (tight_dr c) c
      have e := crossF (D := tightM S W) c hs hr 0
      rw [mv0 W hs, mv0 W hr, hcr] at e
      have f := cross_free P (c.line hs) (c.line hr) (t := 0) (r := 0) n2 n3 (by exact n4) (by exact n5)
      unfold crossL at e
      have f' := f.mp e
      have f2 : ¬ (cycS S (bk (lat W s 0)) (bk (lat W r 0)) (lat W s 1) ↔ cycS S (bk (lat W s 0)) (lat W r 1) (lat W s 1)) := f'
      rw [← cf_cyc c.hS.nd (c.memB hs 0) (c.memB hr 0) (c.mem hs 1) n2 n1 (fun z => n4 z.symm), ← cf_cyc c.hS.nd (c.memB hs 0) (c.mem hr 1) (c.mem hs 1) n3 n1 (fun z => n5 z.symm)] at f2
      refine ⟨.beside s r, in_B hs hr ⟨hlt, ?_, fun z => f2 (by rw [z])⟩, rfl⟩
      simp only [List.nodup_cons, List.mem_cons, List.not_mem_nil, or_false, not_or, List.nodup_nil, and_true, not_false_iff]
      exact ⟨⟨n1, n2, n3⟩, ⟨n4, n5⟩, n6⟩
/-- in tight a link has one crossing -/
theorem tight_uniq (c : Cx S W m) {l : Lk} (hx : isS W (lkX l)) (hy : isS W (lkY l)) (hl : isLink S W l = true) {p p' : Sd × Sd} (h : Cr S W (tightM S W) p) (h' : Cr S W (tightM S W) p') (r : Rl W l p) (r' : Rl W l p') : p = p' := by
  have norm : ∀ {a b : Sd} {p p' : Sd × Sd}, slt p.1 p.2 = true → slt p'.1 p'.2 = true → (p = (a, b) ∨ p = (b, a)) → (p' = (a, b) ∨ p' = (b, a)) → p = p' := by
    intro a b p p' l l' e e'
    rcases e with rfl | rfl <;> rcases e' with rfl | rfl
    · rfl
    · exact (slt_irr l l').elim
    · exact (slt_irr l l').elim
    · rfl
  have both : ∀ {a b : Sd} {p : Sd × Sd}, Cr S W (tightM S W) p → (p = (a, b) ∨ p = (b, a)) → cr S W (tightM S W) a b = true := by
    intro a b p h e
    rcases e with rfl | rfl
    · exact h.cr
    · have := h.cr
      rw [cr_symm (tight_dr c) c h.h1 h.h2 (slt_ne h.lt)] at this
      exact this
  cases l with
  | beside x y => exact Eq.trans r (Eq.symm r')
  | along x y k =>
    have hx' : isS W x := hx
    have hy' : isS W y := hy
    have hk := (link_A c hx' hy').mp hl
    obtain ⟨t, t0, t1, e⟩ := r
    obtain ⟨t', t0', t1', e'⟩ := r'
    obtain ⟨K, hK⟩ := tight_one c (c.line hx') (c.line hy') (c.ml hx') (c.ml hy') hk.st fun t _ _ z => slt_ne hk.lt (mv_inj hx' hy' z)
    have k1 := (hK t t0 t1 (by rw [crossF c hx' hy']; exact both h e)).1
    have k2 := (hK t' t0' t1' (by rw [crossF c hx' hy']; exact both h' e')).1
    have : t = t' := by omega
    subst this
    exact norm h.lt h'.lt e e'
  | against x y k =>
    have hx' : isS W x := hx
    have hy' : isS W y := hy
    have hk := (link_G c hx' hy').mp hl
    obtain ⟨t, t0, t1, e⟩ := r
    obtain ⟨t', t0', t1', e'⟩ := r'
    obtain ⟨K, hK⟩ := tight_one c (c.line hx') (c.lineB hy') (c.ml hx') (c.mlB hy') hk.st (ne_str_G c hx' hy' hk.st)
    have k1 := (hK t t0 t1 (by rw [crossB c hx' hy']; exact both h e)).1
    have k2 := (hK t' t0' t1' (by rw [crossB c hx' hy']; exact both h' e')).1
    have : t = t' := by omega
    subst this
    exact norm h.lt h'.lt e e'
end
end Rw


set_option Elab.async false
set_option linter.all false
namespace Rw
/-! ### counting -/
theorem le_of_rel {α β : Type} (R : α → β → Prop) : ∀ (L : List α) (C : List β), L.Nodup → (∀ a ∈ L, ∃ b, b ∈ C ∧ R a b) → (∀ a a' b, a ∈ L → a' ∈ L → b ∈ C → R a b → R a' b → a = a') → L.length ≤ C.length
  | [], _, _, _, _ => Nat.zero_le _
  | a :: L, C, hn, h1, h2 => by
    obtain ⟨n1, n2⟩ := List.nodup_cons.mp hn
    obtain ⟨b, hb, hr⟩ := h1 a List.mem_cons_self
    obtain ⟨C1, C2, rfl⟩ := List.append_of_mem hb
    have := le_of_rel R L (C1 ++ C2) n2 (fun a' ha' => by
      obtain ⟨b', hb', hr'⟩ := h1 a' (List.mem_cons_of_mem _ ha')
      refine ⟨b', ?_, hr'⟩
      rcases List.mem_append.mp hb' with h | h
      · exact List.mem_append_left _ h
      · rcases List.mem_cons.mp h with h | h
        · subst h
          exact absurd (h2 a a' b' List.mem_cons_self (List.mem_cons_of_mem _ ha') hb hr hr') fun e => n1 (by rw [e]; exact ha')
        · exact List.mem_append_right _ h) fun a1 a2 b' m1 m2 m3 => h2 a1 a2 b' (List.mem_cons_of_mem _ m1) (List.mem_cons_of_mem _ m2) (by
      rcases List.mem_append.mp m3 with h | h
      · exact List.mem_append_left _ h
      · exact List.mem_append_right _ (List.mem_cons_of_mem _ h))
    rw [List.length_append] at this
    rw [List.length_cons, List.length_append, List.length_cons]
    omega
theorem nodupFM {α β : Type} {f : α → List β} : ∀ {l : List α}, (∀ a ∈ l, (f a).Nodup) → l.Pairwise (fun a b => ∀ x, x ∈ f a → x ∈ f b → False) → (l.flatMap f).Nodup
  | [], _, _ => List.nodup_nil
  | a :: l, h, p => by
    obtain ⟨p1, p2⟩ := List.pairwise_cons.mp p
    rw [List.flatMap_cons, List.nodup_append]
    refine ⟨h a List.mem_cons_self, nodupFM (fun b hb => h b (List.mem_cons_of_mem _ hb)) p2, fun x hx y hy e => ?_⟩
    obtain ⟨b, hb, hy'⟩ := List.mem_flatMap.mp hy
    exact p1 b hb x hx (by rw [e]; exact hy')
section
variable {S : List Nat} {W : Ws} {m : Nat} {D : Dw}
theorem linksL_nodup (S : List Nat) (W : Ws) (i j : Nat) : (linksL S W i j).Nodup := by
  unfold linksL
  refine nodupFM (fun p _ => nodupFM (fun q _ => ?_) ?_) ?_
  · unfold linksOf
    refine List.Pairwise.filter _ ?_
    simp
  · refine List.Pairwise.imp (fun {a b} (ne : a ≠ b) x h1 h2 => ?_) List.nodup_range
    have := (linksOf_xy h1).2.1.symm.trans (linksOf_xy h2).2.1
    exact ne (congrArg Prod.snd this)
  · refine List.Pairwise.imp (fun {a b} (ne : a ≠ b) x h1 h2 => ?_) List.nodup_range
    obtain ⟨q, _, h1⟩ := List.mem_flatMap.mp h1
    obtain ⟨q', _, h2⟩ := List.mem_flatMap.mp h2
    have := (linksOf_xy h1).1.symm.trans (linksOf_xy h2).1
    exact ne (congrArg Prod.snd this)
theorem pairsUp_map {α β : Type} (f : α → β) : ∀ L : List α, pairsUp (L.map f) = (pairsUp L).map fun p => (f p.1, f p.2)
  | [] => rfl
  | x :: L => by
    rw [List.map_cons]
    unfold pairsUp
    rw [pairsUp_map f L, List.map_append, List.map_map, List.map_map]
    rfl
theorem pairsUp_in {α : Type} : ∀ {L : List α} {p : α × α}, p ∈ pairsUp L → p.1 ∈ L ∧ p.2 ∈ L
  | [], p, h => by cases h
  | x :: L, p, h => by
    unfold pairsUp at h
    rcases List.mem_append.mp h with h | h
    · obtain ⟨y, hy, rfl⟩ := List.mem_map.mp h
      exact ⟨List.mem_cons_self, List.mem_cons_of_mem _ hy⟩
    · exact ⟨List.mem_cons_of_mem _ (pairsUp_in h).1, List.mem_cons_of_mem _ (pairsUp_in h).2⟩
theorem pairsUp_rel {α : Type} {R : α → α → Prop} : ∀ {L : List α}, L.Pairwise R → ∀ {p : α × α}, p ∈ pairsUp L → R p.1 p.2
  | [], _, p, h => by cases h
  | x :: L, hp, p, h => by
    obtain ⟨p1, p2⟩ := List.pairwise_cons.mp hp
    unfold pairsUp at h
    rcases List.mem_append.mp h with h | h
    · obtain ⟨y, hy, rfl⟩ := List.mem_map.mp h
      exact p1 y hy
    · exact pairsUp_rel p2 h
theorem pairsUp_or {α : Type} : ∀ {L : List α} {a b : α}, a ∈ L → b ∈ L → a ≠ b → (a, b) ∈ pairsUp L ∨ (b, a) ∈ pairsUp L
  | [], a, b, h, _, _ => by cases h
  | x :: L, a, b, ha, hb, ne => by
    unfold pairsUp
    rcases List.mem_cons.mp ha with ha | ha <;> rcases List.mem_cons.mp hb with hb | hb
    · exact absurd (ha.trans hb.symm) ne
    · left
      rw [ha]
      exact List.mem_append_left _ (List.mem_map.mpr ⟨b, hb, rfl⟩)
    · right
      rw [hb]
      exact List.mem_append_left _ (List.mem_map.mpr ⟨a, ha, rfl⟩)
    · exact (pairsUp_or ha hb ne).imp (List.mem_append_right _) (List.mem_append_right _)
theorem pairsUp_nodup {α : Type} : ∀ {L : List α}, L.Nodup → (pairsUp L).Nodup
  | [], _ => List.nodup_nil
  | x :: L, h => by
    obtain ⟨n1, n2⟩ := List.nodup_cons.mp h
    unfold pairsUp
    rw [List.nodup_append]
    refine ⟨List.Pairwise.map _ (fun a b ne e => ne (congrArg Prod.snd e)) n2, pairsUp_nodup n2, fun p hp q hq e => ?_⟩
    obtain ⟨y, _, rfl⟩ := List.mem_map.mp hp
    exact n1 (by have := (pairsUp_in hq).1; rw [← e] at this; exact this)
theorem strands_sorted (W : Ws) : (strandsOf W).Pairwise fun x y => slt x y = true := by
  have : ∀ n, ((List.range n).flatMap fun i => (List.range (wy W i).length).map fun p => (i, p)).Pairwise fun x y => slt x y = true := by
    intro n
    induction n with
    | zero => exact List.Pairwise.nil
    | succ n ih =>
      rw [List.range_succ, List.flatMap_append, List.flatMap_singleton, List.pairwise_append]
      refine ⟨ih, ?_, fun a ha b hb => ?_⟩
      · rw [List.pairwise_map]
        refine List.Pairwise.imp (fun {a b} (h : a < b) => ?_) List.pairwise_lt_range
        exact decide_eq_true (.inr ⟨rfl, h⟩)
      · obtain ⟨i, hi, ha⟩ := List.mem_flatMap.mp ha
        obtain ⟨p, _, rfl⟩ := List.mem_map.mp ha
        obtain ⟨q, _, rfl⟩ := List.mem_map.mp hb
        exact decide_eq_true (.inl (List.mem_range.mp hi))
  exact this W.length
theorem crossings_eq (S : List Nat) (W : Ws) (D : Dw) : crossingsM S W D = (pairsUp (strandsOf W)).filter fun p => cr S W D p.1 p.2 := by
  unfold crossingsM
  rw [pairsUp_map, List.filter_map, List.map_map]
  have : ((fun p : Chd × Chd => (p.1.s, p.2.s)) ∘ fun p : Sd × Sd => (chordM S W D p.1, chordM S W D p.2)) = id := rfl
  rw [this, List.map_id]
  rfl
theorem crossings_mem {p : Sd × Sd} : p ∈ crossingsM S W D ↔ Cr S W D p := by
  rw [crossings_eq, List.mem_filter]
  constructor
  · rintro ⟨h1, h2⟩
    exact ⟨mem_strands.mp (pairsUp_in h1).1, mem_strands.mp (pairsUp_in h1).2, pairsUp_rel (strands_sorted W) h1, h2⟩
  · rintro ⟨h1, h2, h3, h4⟩
    refine ⟨?_, h4⟩
    rcases pairsUp_or (mem_strands.mpr h1) (mem_strands.mpr h2) (slt_ne h3) with h | h
    · exact h
    · exact (slt_irr h3 (pairsUp_rel (strands_sorted W) h)).elim
theorem crossings_nodup (S : List Nat) (W : Ws) (D : Dw) : (crossingsM S W D).Nodup := by
  rw [crossings_eq]
  exact (pairsUp_nodup (nodup_strands W)).filter _
theorem links_is {i j : Nat} (hi : i < W.length) (hj : j < W.length) {l : Lk} (h : l ∈ linksL S W i j) : isS W (lkX l) ∧ isS W (lkY l) ∧ (lkX l).1 = i ∧ (lkY l).1 = j ∧ isLink S W l = true := by
  obtain ⟨p, q, hp, hq, h⟩ := linksL_mem.mp h
  obtain ⟨e1, e2, e3⟩ := linksOf_xy h
  exact ⟨by rw [e1]; exact ⟨hi, hp⟩, by rw [e2]; exact ⟨hj, hq⟩, by rw [e1], by rw [e2], e3⟩
theorem lo_of (c : Cx S W m) (d : Dr S W m D) {i j : Nat} (hij : i ≤ j) (hj : j < W.length) : (linksL S W i j).length ≤ countM (crossingsM S W D) i j := by
  unfold countM
  refine le_of_rel (fun l p => Rl W l p) _ _ (linksL_nodup S W i j) (fun l hl => ?_) fun l l' p hl hl' hp r r' => ?_
  · obtain ⟨h1, h2, h3, h4, h5⟩ := links_is (by omega) hj hl
    obtain ⟨p, p1, p2, p3, p4⟩ := link_has d c h1 h2 (by rw [h3, h4]; exact hij) h5
    exact ⟨p, List.mem_filter.mpr ⟨crossings_mem.mpr p1, decide_eq_true (.inl ⟨by rw [p2, h3], by rw [p3, h4]⟩)⟩, p4⟩
  · obtain ⟨h1, h2, h3, h4, h5⟩ := links_is (by omega) hj hl
    obtain ⟨h1', h2', h3', h4', h5'⟩ := links_is (by omega) hj hl'
    have hc := crossings_mem.mp (List.mem_filter.mp hp).1
    exact one_link c h1 h2 h1' h2' h5 h5' hc.h1 hc.h2 r r'
theorem teq_of (c : Cx S W m) {i j : Nat} (hij : i ≤ j) (hj : j < W.length) : countM (crossingsM S W (tightM S W)) i j = (linksL S W i j).length := by
  refine Nat.le_antisymm ?_ (lo_of c (tight_dr c) hij hj)
  unfold countM
  refine le_of_rel (fun p l => Rl W l p) _ _ ((crossings_nodup S W _).filter _) (fun p hp => ?_) fun p p' l hp hp' hl r r' => ?_
  · obtain ⟨h1, h2⟩ := List.mem_filter.mp hp
    have hc := crossings_mem.mp h1
    have hw : p.1.1 ≤ p.2.1 := by
      have := of_decide_eq_true hc.lt
      omega
    have h2' : p.1.1 = i ∧ p.2.1 = j ∨ p.1.1 = j ∧ p.2.1 = i := of_decide_eq_true h2
    obtain ⟨l, hl, hr⟩ := tight_link c hc hw
    have e : p.1.1 = i ∧ p.2.1 = j := by omega
    rw [e.1, e.2] at hl
    exact ⟨l, hl, hr⟩
  · obtain ⟨h1, h2, h3, h4, h5⟩ := links_is (by omega) hj hl
    exact tight_uniq c h1 h2 h5 (crossings_mem.mp (List.mem_filter.mp hp).1) (crossings_mem.mp (List.mem_filter.mp hp').1) r r'
theorem tight_in (n : Nat) : ((List.range n).map fun n => orderOf S W (throughN W n)) ∈ EDm W n := by
  induction n with
  | zero => show [] ∈ [[]]; simp
  | succ n ih =>
    rw [edm_succ, List.range_succ, List.map_append, List.map_singleton]
    exact List.mem_flatMap.mpr ⟨_, ih, List.mem_map.mpr ⟨_, order_in _, rfl⟩⟩
theorem range_get {α : Type} (d : α) : ∀ l : List α, (List.range l.length).map (fun i => l.getD i d) = l
  | [] => rfl
  | a :: l => by
    rw [List.length_cons, List.range_succ_eq_map, List.map_cons, List.map_map]
    have := range_get d l
    congr 1
theorem letters_eq (W : Ws) : (strandsOf W).map (fun s => lat W s 0) = W.flatten := by
  unfold strandsOf
  rw [List.map_flatMap]
  have e : ∀ i, ((List.range (wy W i).length).map fun p => (i, p)).map (fun s => lat W s 0) = wy W i := fun i => by
    rw [List.map_map]
    have := range_get 0 (wy W i)
    conv => rhs; rw [← this]
    refine List.map_congr_left fun p hp => ?_
    have hl := List.mem_range.mp hp
    show atW (wy W i) ((p : Int) + 0) = (wy W i).getD p 0
    rw [Int.add_zero, atW_nat hl, List.getD_eq_getElem?_getD, List.getElem?_eq_getElem hl]
    rfl
  have e2 : ((List.range W.length).flatMap fun i => ((List.range (wy W i).length).map fun p => (i, p)).map (fun s => lat W s 0)) = (List.range W.length).flatMap fun i => wy W i := by
    congr 1
    funext i
    exact e i
  rw [e2, List.flatMap_def]
  congr 1
  exact range_get [] W
theorem through_count (W : Ws) (n : Nat) : (throughN W n).length = (W.flatten.filter fun c => decide (low c = 97 + n)).length := by
  rw [← letters_eq, List.filter_map, List.length_map]
  rfl
theorem ed_count (W : Ws) : ∀ n, (EDm W n).length = (List.range n).foldl (fun f n => f * fact ((W.flatten.filter fun c => decide (low c = 97 + n)).length)) 1
  | 0 => rfl
  | n + 1 => by
    rw [edm_length, List.range_succ, List.foldl_append, ed_count W n, through_count]
    rfl
theorem strands_small (c : Cx S W m) : (strandsOf W).length ≤ 18 := by
  have : ∀ k, k ≤ W.length → ((List.range k).flatMap fun i => (List.range (wy W i).length).map fun p => (i, p)).length ≤ 6 * k := by
    intro k
    induction k with
    | zero => intro _; exact Nat.le_refl 0
    | succ k ih =>
      intro hk
      rw [List.range_succ, List.flatMap_append, List.flatMap_singleton, List.length_append, List.length_map, List.length_range]
      have := ih (by omega)
      have := (c.hW.ok _ (wyAt (show k < W.length by omega))).len
      omega
  have h1 := this W.length (Nat.le_refl _)
  have h2 := c.hW.len
  show ((List.range W.length).flatMap fun i => (List.range (wy W i).length).map fun p => (i, p)).length ≤ 18
  omega
end
theorem good : ∀ S n W, SurfOk S n → WaysOk n W → howMany S W ≤ 720 → Good S W := by
  intro S m W hS hW hh
  have c : Cx S W m := ⟨hS, hW⟩
  have hd : ∀ D ∈ everyDrawing S W, Dr S W m D ∧ D.length = S.length / 2 := fun D hD => by
    obtain ⟨h1, h2⟩ := edm_row W (S.length / 2) D hD
    exact ⟨⟨fun k hk => h2 k (by rw [c.half]; exact hk)⟩, h1⟩
  refine ⟨fun D hD p hp => ?_, tight_in _, fun p hp => ?_, fun D hD s hs => ?_, ?_, fun D hD => ⟨(hd D hD).2, fun r hr => ?_⟩⟩
  · obtain ⟨h1, h2, h3⟩ := pairsTo_mem.mp hp
    exact lo_of c (hd D hD).1 h2 (by omega)
  · obtain ⟨h1, h2, h3⟩ := pairsTo_mem.mp hp
    exact teq_of c h2 (by omega)
  · have t1 := c.thA hs
    have t2 : ThW S W (lat W s 0) s := ⟨c.mem hs 0, hs, rfl⟩
    exact ⟨spots_mem.mpr ⟨t1.1, (hd D hD).1.mem c t1⟩, spots_mem.mpr ⟨t2.1, (hd D hD).1.mem c t2⟩⟩
  · have : (everyDrawing S W).length = howMany S W := ed_count W (S.length / 2)
    omega
  · obtain ⟨k, hk, e⟩ := List.getElem_of_mem hr
    have hk' : k < m := by rw [← c.half, ← (hd D hD).2]; exact hk
    have hp := (hd D hD).1.row k hk'
    have er : rowAt D k = r := by
      unfold rowAt
      rw [List.getD_eq_getElem?_getD, List.getElem?_eq_getElem hk, e]
      rfl
    rw [er] at hp
    have h1 := hp.length_eq
    have h2 : (throughN W k).length ≤ (strandsOf W).length := List.length_filter_le ..
    have h3 := strands_small c
    omega
end Rw


set_option Elab.async false
set_option linter.all false
set_option maxRecDepth 100000
set_option maxHeartbeats 2000000
namespace Ly
open PySem PySem.Spec PyProof.Rows L2 Evl Rw
/-- a def stands at the top -/
structure Mk (K : PySem.W.Frag) (name : Str) (st : Stmt) : Prop where
  ex : ∃ (f : Addr) (od an : Option Addr) (sl : Array (Option Value)) (oc kV dc pm cd ct : Value), PySem.W.nsIn K mainGlobals name = some (some (.ref f)) ∧
    K.lookup f = some ⟨oc, od, .func (PySem.W.fnOf name name (defArgs st) (defBody st) (defScope st) .none kV dc pm an cd ct), sl⟩ ∧ PySem.W.codeIn K cd name = true ∧ PySem.W.keepIn K (.ref f) = true
theorem mk_of {K : PySem.W.Frag} {name : Str} {st : Stmt} {f : Addr} {od an : Option Addr} {sl : Array (Option Value)} {oc kV dc pm cd ct : Value} (a : PySem.W.nsIn K mainGlobals name = some (some (.ref f)))
    (l : K.lookup f = some ⟨oc, od, .func (PySem.W.fnOf name name (defArgs st) (defBody st) (defScope st) .none kV dc pm an cd ct), sl⟩) (c : PySem.W.codeIn K cd name = true) (k : PySem.W.keepIn K (.ref f) = true) : Mk K name st := ⟨⟨f, od, an, sl, oc, kV, dc, pm, cd, ct, a, l, c, k⟩⟩
theorem dt_back_of {K : PySem.W.Frag} {h : Heap} {mg : Str → Option Value} (X : K.In h) (G : h.Ns mainGlobals mg) (m : Mk K "back_of" (topS 2)) : Dt K mg "back_of" (topS 2) ["letter"] := by
  obtain ⟨f, od, an, sl, oc, kV, dc, pm, cd, ct, a, l, c, k⟩ := m.ex
  have F := fun_mk (st := topS 2) l c k
  exact ⟨f, _, F, PySem.W.mg_of X G a, F.binds (ps := ["letter"]) fun _ _ _ _ _ _ us hl => match us, hl with | [_], _ => rfl⟩
theorem dt_back {K : PySem.W.Frag} {h : Heap} {mg : Str → Option Value} (X : K.In h) (G : h.Ns mainGlobals mg) (m : Mk K "back" (topS 3)) : Dt K mg "back" (topS 3) ["word"] := by
  obtain ⟨f, od, an, sl, oc, kV, dc, pm, cd, ct, a, l, c, k⟩ := m.ex
  have F := fun_mk (st := topS 3) l c k
  exact ⟨f, _, F, PySem.W.mg_of X G a, F.binds (ps := ["word"]) fun _ _ _ _ _ _ us hl => match us, hl with | [_], _ => rfl⟩
theorem dt_moved {K : PySem.W.Frag} {h : Heap} {mg : Str → Option Value} (X : K.In h) (G : h.Ns mainGlobals mg) (m : Mk K "moved" (topS 6)) : Dt K mg "moved" (topS 6) ["ways", "strand", "step"] := by
  obtain ⟨f, od, an, sl, oc, kV, dc, pm, cd, ct, a, l, c, k⟩ := m.ex
  have F := fun_mk (st := topS 6) l c k
  exact ⟨f, _, F, PySem.W.mg_of X G a, F.binds (ps := ["ways", "strand", "step"]) fun _ _ _ _ _ _ us hl => match us, hl with | [_, _, _], _ => rfl⟩
theorem dt_letter_at {K : PySem.W.Frag} {h : Heap} {mg : Str → Option Value} (X : K.In h) (G : h.Ns mainGlobals mg) (m : Mk K "letter_at" (topS 7)) : Dt K mg "letter_at" (topS 7) ["ways", "strand", "step"] := by
  obtain ⟨f, od, an, sl, oc, kV, dc, pm, cd, ct, a, l, c, k⟩ := m.ex
  have F := fun_mk (st := topS 7) l c k
  exact ⟨f, _, F, PySem.W.mg_of X G a, F.binds (ps := ["ways", "strand", "step"]) fun _ _ _ _ _ _ us hl => match us, hl with | [_, _, _], _ => rfl⟩
theorem dt_strands_of {K : PySem.W.Frag} {h : Heap} {mg : Str → Option Value} (X : K.In h) (G : h.Ns mainGlobals mg) (m : Mk K "strands_of" (topS 8)) : Dt K mg "strands_of" (topS 8) ["ways"] := by
  obtain ⟨f, od, an, sl, oc, kV, dc, pm, cd, ct, a, l, c, k⟩ := m.ex
  have F := fun_mk (st := topS 8) l c k
  exact ⟨f, _, F, PySem.W.mg_of X G a, F.binds (ps := ["ways"]) fun _ _ _ _ _ _ us hl => match us, hl with | [_], _ => rfl⟩
theorem dt_strands_through {K : PySem.W.Frag} {h : Heap} {mg : Str → Option Value} (X : K.In h) (G : h.Ns mainGlobals mg) (m : Mk K "strands_through" (topS 9)) : Dt K mg "strands_through" (topS 9) ["ways", "number"] := by
  obtain ⟨f, od, an, sl, oc, kV, dc, pm, cd, ct, a, l, c, k⟩ := m.ex
  have F := fun_mk (st := topS 9) l c k
  exact ⟨f, _, F, PySem.W.mg_of X G a, F.binds (ps := ["ways", "number"]) fun _ _ _ _ _ _ us hl => match us, hl with | [_, _], _ => rfl⟩
theorem dt_is_strand {K : PySem.W.Frag} {h : Heap} {mg : Str → Option Value} (X : K.In h) (G : h.Ns mainGlobals mg) (m : Mk K "is_strand" (topS 10)) : Dt K mg "is_strand" (topS 10) ["ways", "thing"] := by
  obtain ⟨f, od, an, sl, oc, kV, dc, pm, cd, ct, a, l, c, k⟩ := m.ex
  have F := fun_mk (st := topS 10) l c k
  exact ⟨f, _, F, PySem.W.mg_of X G a, F.binds (ps := ["ways", "thing"]) fun _ _ _ _ _ _ us hl => match us, hl with | [_, _], _ => rfl⟩
theorem dt_room_of {K : PySem.W.Frag} {h : Heap} {mg : Str → Option Value} (X : K.In h) (G : h.Ns mainGlobals mg) (m : Mk K "room_of" (topS 11)) : Dt K mg "room_of" (topS 11) ["ways", "one", "other"] := by
  obtain ⟨f, od, an, sl, oc, kV, dc, pm, cd, ct, a, l, c, k⟩ := m.ex
  have F := fun_mk (st := topS 11) l c k
  exact ⟨f, _, F, PySem.W.mg_of X G a, F.binds (ps := ["ways", "one", "other"]) fun _ _ _ _ _ _ us hl => match us, hl with | [_, _, _], _ => rfl⟩
theorem dt_comes_first {K : PySem.W.Frag} {h : Heap} {mg : Str → Option Value} (X : K.In h) (G : h.Ns mainGlobals mg) (m : Mk K "comes_first" (topS 13)) : Dt K mg "comes_first" (topS 13) ["surface", "begin", "one", "other"] := by
  obtain ⟨f, od, an, sl, oc, kV, dc, pm, cd, ct, a, l, c, k⟩ := m.ex
  have F := fun_mk (st := topS 13) l c k
  exact ⟨f, _, F, PySem.W.mg_of X G a, F.binds (ps := ["surface", "begin", "one", "other"]) fun _ _ _ _ _ _ us hl => match us, hl with | [_, _, _, _], _ => rfl⟩
theorem dt_is_beside {K : PySem.W.Frag} {h : Heap} {mg : Str → Option Value} (X : K.In h) (G : h.Ns mainGlobals mg) (m : Mk K "is_beside" (topS 14)) : Dt K mg "is_beside" (topS 14) ["surface", "ways", "one", "other"] := by
  obtain ⟨f, od, an, sl, oc, kV, dc, pm, cd, ct, a, l, c, k⟩ := m.ex
  have F := fun_mk (st := topS 14) l c k
  exact ⟨f, _, F, PySem.W.mg_of X G a, F.binds (ps := ["surface", "ways", "one", "other"]) fun _ _ _ _ _ _ us hl => match us, hl with | [_, _, _, _], _ => rfl⟩
theorem dt_is_along {K : PySem.W.Frag} {h : Heap} {mg : Str → Option Value} (X : K.In h) (G : h.Ns mainGlobals mg) (m : Mk K "is_along" (topS 15)) : Dt K mg "is_along" (topS 15) ["surface", "ways", "one", "other", "many"] := by
  obtain ⟨f, od, an, sl, oc, kV, dc, pm, cd, ct, a, l, c, k⟩ := m.ex
  have F := fun_mk (st := topS 15) l c k
  exact ⟨f, _, F, PySem.W.mg_of X G a, F.binds (ps := ["surface", "ways", "one", "other", "many"]) fun _ _ _ _ _ _ us hl => match us, hl with | [_, _, _, _, _], _ => rfl⟩
theorem dt_is_against {K : PySem.W.Frag} {h : Heap} {mg : Str → Option Value} (X : K.In h) (G : h.Ns mainGlobals mg) (m : Mk K "is_against" (topS 16)) : Dt K mg "is_against" (topS 16) ["surface", "ways", "one", "other", "many"] := by
  obtain ⟨f, od, an, sl, oc, kV, dc, pm, cd, ct, a, l, c, k⟩ := m.ex
  have F := fun_mk (st := topS 16) l c k
  exact ⟨f, _, F, PySem.W.mg_of X G a, F.binds (ps := ["surface", "ways", "one", "other", "many"]) fun _ _ _ _ _ _ us hl => match us, hl with | [_, _, _, _, _], _ => rfl⟩
theorem dt_is_long {K : PySem.W.Frag} {h : Heap} {mg : Str → Option Value} (X : K.In h) (G : h.Ns mainGlobals mg) (m : Mk K "is_long" (topS 17)) : Dt K mg "is_long" (topS 17) ["thing"] := by
  obtain ⟨f, od, an, sl, oc, kV, dc, pm, cd, ct, a, l, c, k⟩ := m.ex
  have F := fun_mk (st := topS 17) l c k
  exact ⟨f, _, F, PySem.W.mg_of X G a, F.binds (ps := ["thing"]) fun _ _ _ _ _ _ us hl => match us, hl with | [_], _ => rfl⟩
theorem dt_is_link {K : PySem.W.Frag} {h : Heap} {mg : Str → Option Value} (X : K.In h) (G : h.Ns mainGlobals mg) (m : Mk K "is_link" (topS 18)) : Dt K mg "is_link" (topS 18) ["surface", "ways", "thing"] := by
  obtain ⟨f, od, an, sl, oc, kV, dc, pm, cd, ct, a, l, c, k⟩ := m.ex
  have F := fun_mk (st := topS 18) l c k
  exact ⟨f, _, F, PySem.W.mg_of X G a, F.binds (ps := ["surface", "ways", "thing"]) fun _ _ _ _ _ _ us hl => match us, hl with | [_, _, _], _ => rfl⟩
theorem dt_met_at {K : PySem.W.Frag} {h : Heap} {mg : Str → Option Value} (X : K.In h) (G : h.Ns mainGlobals mg) (m : Mk K "met_at" (topS 21)) : Dt K mg "met_at" (topS 21) ["ways", "strand", "step"] := by
  obtain ⟨f, od, an, sl, oc, kV, dc, pm, cd, ct, a, l, c, k⟩ := m.ex
  have F := fun_mk (st := topS 21) l c k
  exact ⟨f, _, F, PySem.W.mg_of X G a, F.binds (ps := ["ways", "strand", "step"]) fun _ _ _ _ _ _ us hl => match us, hl with | [_, _, _], _ => rfl⟩
theorem dt_run_on {K : PySem.W.Frag} {h : Heap} {mg : Str → Option Value} (X : K.In h) (G : h.Ns mainGlobals mg) (m : Mk K "run_on" (topS 22)) : Dt K mg "run_on" (topS 22) ["ways", "one", "other", "way"] := by
  obtain ⟨f, od, an, sl, oc, kV, dc, pm, cd, ct, a, l, c, k⟩ := m.ex
  have F := fun_mk (st := topS 22) l c k
  exact ⟨f, _, F, PySem.W.mg_of X G a, F.binds (ps := ["ways", "one", "other", "way"]) fun _ _ _ _ _ _ us hl => match us, hl with | [_, _, _, _], _ => rfl⟩
theorem dt_stands_first {K : PySem.W.Frag} {h : Heap} {mg : Str → Option Value} (X : K.In h) (G : h.Ns mainGlobals mg) (m : Mk K "stands_first" (topS 23)) : Dt K mg "stands_first" (topS 23) ["surface", "ways", "one", "other"] := by
  obtain ⟨f, od, an, sl, oc, kV, dc, pm, cd, ct, a, l, c, k⟩ := m.ex
  have F := fun_mk (st := topS 23) l c k
  exact ⟨f, _, F, PySem.W.mg_of X G a, F.binds (ps := ["surface", "ways", "one", "other"]) fun _ _ _ _ _ _ us hl => match us, hl with | [_, _, _, _], _ => rfl⟩
theorem dt_order_of {K : PySem.W.Frag} {h : Heap} {mg : Str → Option Value} (X : K.In h) (G : h.Ns mainGlobals mg) (m : Mk K "order_of" (topS 24)) : Dt K mg "order_of" (topS 24) ["surface", "ways", "strands"] := by
  obtain ⟨f, od, an, sl, oc, kV, dc, pm, cd, ct, a, l, c, k⟩ := m.ex
  have F := fun_mk (st := topS 24) l c k
  exact ⟨f, _, F, PySem.W.mg_of X G a, F.binds (ps := ["surface", "ways", "strands"]) fun _ _ _ _ _ _ us hl => match us, hl with | [_, _, _], _ => rfl⟩
theorem dt_tight {K : PySem.W.Frag} {h : Heap} {mg : Str → Option Value} (X : K.In h) (G : h.Ns mainGlobals mg) (m : Mk K "tight" (topS 25)) : Dt K mg "tight" (topS 25) ["surface", "ways"] := by
  obtain ⟨f, od, an, sl, oc, kV, dc, pm, cd, ct, a, l, c, k⟩ := m.ex
  have F := fun_mk (st := topS 25) l c k
  exact ⟨f, _, F, PySem.W.mg_of X G a, F.binds (ps := ["surface", "ways"]) fun _ _ _ _ _ _ us hl => match us, hl with | [_, _], _ => rfl⟩
theorem dt_run_along {K : PySem.W.Frag} {h : Heap} {mg : Str → Option Value} (X : K.In h) (G : h.Ns mainGlobals mg) (m : Mk K "run_along" (topS 27)) : Dt K mg "run_along" (topS 27) ["ways", "one", "other"] := by
  obtain ⟨f, od, an, sl, oc, kV, dc, pm, cd, ct, a, l, c, k⟩ := m.ex
  have F := fun_mk (st := topS 27) l c k
  exact ⟨f, _, F, PySem.W.mg_of X G a, F.binds (ps := ["ways", "one", "other"]) fun _ _ _ _ _ _ us hl => match us, hl with | [_, _, _], _ => rfl⟩
theorem dt_run_against {K : PySem.W.Frag} {h : Heap} {mg : Str → Option Value} (X : K.In h) (G : h.Ns mainGlobals mg) (m : Mk K "run_against" (topS 28)) : Dt K mg "run_against" (topS 28) ["ways", "one", "other"] := by
  obtain ⟨f, od, an, sl, oc, kV, dc, pm, cd, ct, a, l, c, k⟩ := m.ex
  have F := fun_mk (st := topS 28) l c k
  exact ⟨f, _, F, PySem.W.mg_of X G a, F.binds (ps := ["ways", "one", "other"]) fun _ _ _ _ _ _ us hl => match us, hl with | [_, _, _], _ => rfl⟩
theorem dt_links_of {K : PySem.W.Frag} {h : Heap} {mg : Str → Option Value} (X : K.In h) (G : h.Ns mainGlobals mg) (m : Mk K "links_of" (topS 29)) : Dt K mg "links_of" (topS 29) ["surface", "ways", "one", "other"] := by
  obtain ⟨f, od, an, sl, oc, kV, dc, pm, cd, ct, a, l, c, k⟩ := m.ex
  have F := fun_mk (st := topS 29) l c k
  exact ⟨f, _, F, PySem.W.mg_of X G a, F.binds (ps := ["surface", "ways", "one", "other"]) fun _ _ _ _ _ _ us hl => match us, hl with | [_, _, _, _], _ => rfl⟩
theorem dt_links {K : PySem.W.Frag} {h : Heap} {mg : Str → Option Value} (X : K.In h) (G : h.Ns mainGlobals mg) (m : Mk K "links" (topS 30)) : Dt K mg "links" (topS 30) ["surface", "ways", "i", "j"] := by
  obtain ⟨f, od, an, sl, oc, kV, dc, pm, cd, ct, a, l, c, k⟩ := m.ex
  have F := fun_mk (st := topS 30) l c k
  exact ⟨f, _, F, PySem.W.mg_of X G a, F.binds (ps := ["surface", "ways", "i", "j"]) fun _ _ _ _ _ _ us hl => match us, hl with | [_, _, _, _], _ => rfl⟩
theorem dt__law_tape {K : PySem.W.Frag} {h : Heap} {mg : Str → Option Value} (X : K.In h) (G : h.Ns mainGlobals mg) (m : Mk K "_law_tape" (topS 32)) : Dt K mg "_law_tape" (topS 32) ["_law_script"] := by
  obtain ⟨f, od, an, sl, oc, kV, dc, pm, cd, ct, a, l, c, k⟩ := m.ex
  have F := fun_mk (st := topS 32) l c k
  exact ⟨f, _, F, PySem.W.mg_of X G a, F.binds (ps := ["_law_script"]) fun _ _ _ _ _ _ us hl => match us, hl with | [_], _ => rfl⟩
theorem dt__law_draw {K : PySem.W.Frag} {h : Heap} {mg : Str → Option Value} (X : K.In h) (G : h.Ns mainGlobals mg) (m : Mk K "_law_draw" (topS 33)) : Dt K mg "_law_draw" (topS 33) ["_law_tape_here", "_law_many"] := by
  obtain ⟨f, od, an, sl, oc, kV, dc, pm, cd, ct, a, l, c, k⟩ := m.ex
  have F := fun_mk (st := topS 33) l c k
  exact ⟨f, _, F, PySem.W.mg_of X G a, F.binds (ps := ["_law_tape_here", "_law_many"]) fun _ _ _ _ _ _ us hl => match us, hl with | [_, _], _ => rfl⟩
theorem dt__law_back {K : PySem.W.Frag} {h : Heap} {mg : Str → Option Value} (X : K.In h) (G : h.Ns mainGlobals mg) (m : Mk K "_law_back" (topS 34)) : Dt K mg "_law_back" (topS 34) ["_law_word"] := by
  obtain ⟨f, od, an, sl, oc, kV, dc, pm, cd, ct, a, l, c, k⟩ := m.ex
  have F := fun_mk (st := topS 34) l c k
  exact ⟨f, _, F, PySem.W.mg_of X G a, F.binds (ps := ["_law_word"]) fun _ _ _ _ _ _ us hl => match us, hl with | [_], _ => rfl⟩
theorem dt__law_any_row {K : PySem.W.Frag} {h : Heap} {mg : Str → Option Value} (X : K.In h) (G : h.Ns mainGlobals mg) (m : Mk K "_law_any_row" (topS 35)) : Dt K mg "_law_any_row" (topS 35) ["_law_tape_here", "_law_most"] := by
  obtain ⟨f, od, an, sl, oc, kV, dc, pm, cd, ct, a, l, c, k⟩ := m.ex
  have F := fun_mk (st := topS 35) l c k
  exact ⟨f, _, F, PySem.W.mg_of X G a, F.binds (ps := ["_law_tape_here", "_law_most"]) fun _ _ _ _ _ _ us hl => match us, hl with | [_, _], _ => rfl⟩
theorem dt__law_inner {K : PySem.W.Frag} {h : Heap} {mg : Str → Option Value} (X : K.In h) (G : h.Ns mainGlobals mg) (m : Mk K "_law_inner" (topS 36)) : Dt K mg "_law_inner" (topS 36) ["_law_word"] := by
  obtain ⟨f, od, an, sl, oc, kV, dc, pm, cd, ct, a, l, c, k⟩ := m.ex
  have F := fun_mk (st := topS 36) l c k
  exact ⟨f, _, F, PySem.W.mg_of X G a, F.binds (ps := ["_law_word"]) fun _ _ _ _ _ _ us hl => match us, hl with | [_], _ => rfl⟩
theorem dt__law_rooted {K : PySem.W.Frag} {h : Heap} {mg : Str → Option Value} (X : K.In h) (G : h.Ns mainGlobals mg) (m : Mk K "_law_rooted" (topS 37)) : Dt K mg "_law_rooted" (topS 37) ["_law_word"] := by
  obtain ⟨f, od, an, sl, oc, kV, dc, pm, cd, ct, a, l, c, k⟩ := m.ex
  have F := fun_mk (st := topS 37) l c k
  exact ⟨f, _, F, PySem.W.mg_of X G a, F.binds (ps := ["_law_word"]) fun _ _ _ _ _ _ us hl => match us, hl with | [_], _ => rfl⟩
theorem dt__law_any_way {K : PySem.W.Frag} {h : Heap} {mg : Str → Option Value} (X : K.In h) (G : h.Ns mainGlobals mg) (m : Mk K "_law_any_way" (topS 38)) : Dt K mg "_law_any_way" (topS 38) ["_law_tape_here", "_law_many", "_law_long"] := by
  obtain ⟨f, od, an, sl, oc, kV, dc, pm, cd, ct, a, l, c, k⟩ := m.ex
  have F := fun_mk (st := topS 38) l c k
  exact ⟨f, _, F, PySem.W.mg_of X G a, F.binds (ps := ["_law_tape_here", "_law_many", "_law_long"]) fun _ _ _ _ _ _ us hl => match us, hl with | [_, _, _], _ => rfl⟩
theorem dt__law_some_ways {K : PySem.W.Frag} {h : Heap} {mg : Str → Option Value} (X : K.In h) (G : h.Ns mainGlobals mg) (m : Mk K "_law_some_ways" (topS 39)) : Dt K mg "_law_some_ways" (topS 39) ["_law_tape_here", "_law_many", "_law_most", "_law_long"] := by
  obtain ⟨f, od, an, sl, oc, kV, dc, pm, cd, ct, a, l, c, k⟩ := m.ex
  have F := fun_mk (st := topS 39) l c k
  exact ⟨f, _, F, PySem.W.mg_of X G a, F.binds (ps := ["_law_tape_here", "_law_many", "_law_most", "_law_long"]) fun _ _ _ _ _ _ us hl => match us, hl with | [_, _, _, _], _ => rfl⟩
theorem dt__law_all_strands {K : PySem.W.Frag} {h : Heap} {mg : Str → Option Value} (X : K.In h) (G : h.Ns mainGlobals mg) (m : Mk K "_law_all_strands" (topS 40)) : Dt K mg "_law_all_strands" (topS 40) ["_law_ways"] := by
  obtain ⟨f, od, an, sl, oc, kV, dc, pm, cd, ct, a, l, c, k⟩ := m.ex
  have F := fun_mk (st := topS 40) l c k
  exact ⟨f, _, F, PySem.W.mg_of X G a, F.binds (ps := ["_law_ways"]) fun _ _ _ _ _ _ us hl => match us, hl with | [_], _ => rfl⟩
theorem dt__law_all_spots {K : PySem.W.Frag} {h : Heap} {mg : Str → Option Value} (X : K.In h) (G : h.Ns mainGlobals mg) (m : Mk K "_law_all_spots" (topS 41)) : Dt K mg "_law_all_spots" (topS 41) ["_law_surface", "_law_drawing"] := by
  obtain ⟨f, od, an, sl, oc, kV, dc, pm, cd, ct, a, l, c, k⟩ := m.ex
  have F := fun_mk (st := topS 41) l c k
  exact ⟨f, _, F, PySem.W.mg_of X G a, F.binds (ps := ["_law_surface", "_law_drawing"]) fun _ _ _ _ _ _ us hl => match us, hl with | [_, _], _ => rfl⟩
theorem dt__law_all_chords {K : PySem.W.Frag} {h : Heap} {mg : Str → Option Value} (X : K.In h) (G : h.Ns mainGlobals mg) (m : Mk K "_law_all_chords" (topS 42)) : Dt K mg "_law_all_chords" (topS 42) ["_law_surface", "_law_ways", "_law_drawing"] := by
  obtain ⟨f, od, an, sl, oc, kV, dc, pm, cd, ct, a, l, c, k⟩ := m.ex
  have F := fun_mk (st := topS 42) l c k
  exact ⟨f, _, F, PySem.W.mg_of X G a, F.binds (ps := ["_law_surface", "_law_ways", "_law_drawing"]) fun _ _ _ _ _ _ us hl => match us, hl with | [_, _, _], _ => rfl⟩
theorem dt__law_crosses {K : PySem.W.Frag} {h : Heap} {mg : Str → Option Value} (X : K.In h) (G : h.Ns mainGlobals mg) (m : Mk K "_law_crosses" (topS 43)) : Dt K mg "_law_crosses" (topS 43) ["_law_one", "_law_other"] := by
  obtain ⟨f, od, an, sl, oc, kV, dc, pm, cd, ct, a, l, c, k⟩ := m.ex
  have F := fun_mk (st := topS 43) l c k
  exact ⟨f, _, F, PySem.W.mg_of X G a, F.binds (ps := ["_law_one", "_law_other"]) fun _ _ _ _ _ _ us hl => match us, hl with | [_, _], _ => rfl⟩
theorem dt__law_all_crossings {K : PySem.W.Frag} {h : Heap} {mg : Str → Option Value} (X : K.In h) (G : h.Ns mainGlobals mg) (m : Mk K "_law_all_crossings" (topS 44)) : Dt K mg "_law_all_crossings" (topS 44) ["_law_surface", "_law_ways", "_law_drawing"] := by
  obtain ⟨f, od, an, sl, oc, kV, dc, pm, cd, ct, a, l, c, k⟩ := m.ex
  have F := fun_mk (st := topS 44) l c k
  exact ⟨f, _, F, PySem.W.mg_of X G a, F.binds (ps := ["_law_surface", "_law_ways", "_law_drawing"]) fun _ _ _ _ _ _ us hl => match us, hl with | [_, _, _], _ => rfl⟩
theorem dt__law_count {K : PySem.W.Frag} {h : Heap} {mg : Str → Option Value} (X : K.In h) (G : h.Ns mainGlobals mg) (m : Mk K "_law_count" (topS 45)) : Dt K mg "_law_count" (topS 45) ["_law_found", "_law_i", "_law_j"] := by
  obtain ⟨f, od, an, sl, oc, kV, dc, pm, cd, ct, a, l, c, k⟩ := m.ex
  have F := fun_mk (st := topS 45) l c k
  exact ⟨f, _, F, PySem.W.mg_of X G a, F.binds (ps := ["_law_found", "_law_i", "_law_j"]) fun _ _ _ _ _ _ us hl => match us, hl with | [_, _, _], _ => rfl⟩
theorem dt__law_every_order {K : PySem.W.Frag} {h : Heap} {mg : Str → Option Value} (X : K.In h) (G : h.Ns mainGlobals mg) (m : Mk K "_law_every_order" (topS 46)) : Dt K mg "_law_every_order" (topS 46) ["_law_things"] := by
  obtain ⟨f, od, an, sl, oc, kV, dc, pm, cd, ct, a, l, c, k⟩ := m.ex
  have F := fun_mk (st := topS 46) l c k
  exact ⟨f, _, F, PySem.W.mg_of X G a, F.binds (ps := ["_law_things"]) fun _ _ _ _ _ _ us hl => match us, hl with | [_], _ => rfl⟩
theorem dt__law_every_drawing {K : PySem.W.Frag} {h : Heap} {mg : Str → Option Value} (X : K.In h) (G : h.Ns mainGlobals mg) (m : Mk K "_law_every_drawing" (topS 47)) : Dt K mg "_law_every_drawing" (topS 47) ["_law_surface", "_law_ways"] := by
  obtain ⟨f, od, an, sl, oc, kV, dc, pm, cd, ct, a, l, c, k⟩ := m.ex
  have F := fun_mk (st := topS 47) l c k
  exact ⟨f, _, F, PySem.W.mg_of X G a, F.binds (ps := ["_law_surface", "_law_ways"]) fun _ _ _ _ _ _ us hl => match us, hl with | [_, _], _ => rfl⟩
theorem dt__law_how_many {K : PySem.W.Frag} {h : Heap} {mg : Str → Option Value} (X : K.In h) (G : h.Ns mainGlobals mg) (m : Mk K "_law_how_many" (topS 48)) : Dt K mg "_law_how_many" (topS 48) ["_law_surface", "_law_ways"] := by
  obtain ⟨f, od, an, sl, oc, kV, dc, pm, cd, ct, a, l, c, k⟩ := m.ex
  have F := fun_mk (st := topS 48) l c k
  exact ⟨f, _, F, PySem.W.mg_of X G a, F.binds (ps := ["_law_surface", "_law_ways"]) fun _ _ _ _ _ _ us hl => match us, hl with | [_, _], _ => rfl⟩
theorem dt__law_small {K : PySem.W.Frag} {h : Heap} {mg : Str → Option Value} (X : K.In h) (G : h.Ns mainGlobals mg) (m : Mk K "_law_small" (topS 49)) : Dt K mg "_law_small" (topS 49) ["_law_tape_here", "_law_many", "_law_surface", "_law_most"] := by
  obtain ⟨f, od, an, sl, oc, kV, dc, pm, cd, ct, a, l, c, k⟩ := m.ex
  have F := fun_mk (st := topS 49) l c k
  exact ⟨f, _, F, PySem.W.mg_of X G a, F.binds (ps := ["_law_tape_here", "_law_many", "_law_surface", "_law_most"]) fun _ _ _ _ _ _ us hl => match us, hl with | [_, _, _, _], _ => rfl⟩
theorem dt__law_right {K : PySem.W.Frag} {h : Heap} {mg : Str → Option Value} (X : K.In h) (G : h.Ns mainGlobals mg) (m : Mk K "_law_right" (topS 50)) : Dt K mg "_law_right" (topS 50) ["_law_surface", "_law_ways"] := by
  obtain ⟨f, od, an, sl, oc, kV, dc, pm, cd, ct, a, l, c, k⟩ := m.ex
  have F := fun_mk (st := topS 50) l c k
  exact ⟨f, _, F, PySem.W.mg_of X G a, F.binds (ps := ["_law_surface", "_law_ways"]) fun _ _ _ _ _ _ us hl => match us, hl with | [_, _], _ => rfl⟩
theorem dt_law {K : PySem.W.Frag} {h : Heap} {mg : Str → Option Value} (X : K.In h) (G : h.Ns mainGlobals mg) (m : Mk K "law" (topS 51)) : Dt K mg "law" (topS 51) ["_law_script"] := by
  obtain ⟨f, od, an, sl, oc, kV, dc, pm, cd, ct, a, l, c, k⟩ := m.ex
  have F := fun_mk (st := topS 51) l c k
  exact ⟨f, _, F, PySem.W.mg_of X G a, F.binds (ps := ["_law_script"]) fun _ _ _ _ _ _ us hl => match us, hl with | [_], _ => rfl⟩
theorem all_mk {l : PySem.W.OpenLaw} {w : World} {K : PySem.W.Frag} {h : Heap} {mg : Str → Option Value} {fa : Addr} (X : K.In h) (G : h.Ns mainGlobals mg) (hfa : mg "law" = some (.ref fa))
    (m2 : Mk K "back_of" (topS 2))
    (m3 : Mk K "back" (topS 3))
    (m6 : Mk K "moved" (topS 6))
    (m7 : Mk K "letter_at" (topS 7))
    (m8 : Mk K "strands_of" (topS 8))
    (m9 : Mk K "strands_through" (topS 9))
    (m10 : Mk K "is_strand" (topS 10))
    (m11 : Mk K "room_of" (topS 11))
    (m13 : Mk K "comes_first" (topS 13))
    (m14 : Mk K "is_beside" (topS 14))
    (m15 : Mk K "is_along" (topS 15))
    (m16 : Mk K "is_against" (topS 16))
    (m17 : Mk K "is_long" (topS 17))
    (m18 : Mk K "is_link" (topS 18))
    (m21 : Mk K "met_at" (topS 21))
    (m22 : Mk K "run_on" (topS 22))
    (m23 : Mk K "stands_first" (topS 23))
    (m24 : Mk K "order_of" (topS 24))
    (m25 : Mk K "tight" (topS 25))
    (m27 : Mk K "run_along" (topS 27))
    (m28 : Mk K "run_against" (topS 28))
    (m29 : Mk K "links_of" (topS 29))
    (m30 : Mk K "links" (topS 30))
    (m32 : Mk K "_law_tape" (topS 32))
    (m33 : Mk K "_law_draw" (topS 33))
    (m34 : Mk K "_law_back" (topS 34))
    (m35 : Mk K "_law_any_row" (topS 35))
    (m36 : Mk K "_law_inner" (topS 36))
    (m37 : Mk K "_law_rooted" (topS 37))
    (m38 : Mk K "_law_any_way" (topS 38))
    (m39 : Mk K "_law_some_ways" (topS 39))
    (m40 : Mk K "_law_all_strands" (topS 40))
    (m41 : Mk K "_law_all_spots" (topS 41))
    (m42 : Mk K "_law_all_chords" (topS 42))
    (m43 : Mk K "_law_crosses" (topS 43))
    (m44 : Mk K "_law_all_crossings" (topS 44))
    (m45 : Mk K "_law_count" (topS 45))
    (m46 : Mk K "_law_every_order" (topS 46))
    (m47 : Mk K "_law_every_drawing" (topS 47))
    (m48 : Mk K "_law_how_many" (topS 48))
    (m49 : Mk K "_law_small" (topS 49))
    (m50 : Mk K "_law_right" (topS 50))
    (m51 : Mk K "law" (topS 51))
    (z_len : PySem.W.nsIn K mainGlobals "len" = some none)
    (z_range : PySem.W.nsIn K mainGlobals "range" = some none)
    (z_list : PySem.W.nsIn K mainGlobals "list" = some none)
    (z_tuple : PySem.W.nsIn K mainGlobals "tuple" = some none)
    (z_sum : PySem.W.nsIn K mainGlobals "sum" = some none)
    (z_all : PySem.W.nsIn K mainGlobals "all" = some none)
    (z_min : PySem.W.nsIn K mainGlobals "min" = some none)
    (z_isi : PySem.W.nsIn K mainGlobals "isinstance" = some none)
    (z_set : PySem.W.nsIn K mainGlobals "set" = some none)
    (z_sorted : PySem.W.nsIn K mainGlobals "sorted" = some none)
    (z_enum : PySem.W.nsIn K mainGlobals "enumerate" = some none)
    (z_int : PySem.W.nsIn K mainGlobals "int" = some none)
    (z_bool : PySem.W.nsIn K mainGlobals "bool" = some none)
    (z_str : PySem.W.nsIn K mainGlobals "str" = some none)
    {v1 v2 v3 : Value} (t1 : PySem.W.nsIn K mainGlobals "SMALL_letters" = some (some v1)) (t2 : PySem.W.nsIn K mainGlobals "SMALL_strands" = some (some v2)) (t3 : PySem.W.nsIn K mainGlobals "SMALL_tight" = some (some v3)) (u1 : ∃ t, v1 = .str "abcdef" t) (u2 : ∃ t, v2 = .str "abcdef" t) (u3 : ∃ t, v3 = .str "abcdef" t) :
    ∃ fd : FuncData, (∀ (s : Shared) (v : Value), BindsTo s fd ⟨[v], []⟩ [("_law_script", v)]) ∧ ∀ base : Heap, K.In base → base.Ns mainGlobals mg → FnOk l.prog w K mg base CX0 9 fa fd ["_law_script"] (spLaw K) := by
  obtain ⟨k1, rfl⟩ := u1
  obtain ⟨k2, rfl⟩ := u2
  obtain ⟨k3, rfl⟩ := u3
  have T : Bl mg := ⟨PySem.W.mg_none_of X G z_len, PySem.W.mg_none_of X G z_range, PySem.W.mg_none_of X G z_list, PySem.W.mg_none_of X G z_tuple, PySem.W.mg_none_of X G z_sum, PySem.W.mg_none_of X G z_all, PySem.W.mg_none_of X G z_min, PySem.W.mg_none_of X G z_isi, PySem.W.mg_none_of X G z_set, PySem.W.mg_none_of X G z_sorted, PySem.W.mg_none_of X G z_enum, PySem.W.mg_none_of X G z_int, PySem.W.mg_none_of X G z_bool, PySem.W.mg_none_of X G z_str, ⟨k1, PySem.W.mg_of X G t1⟩, ⟨k2, PySem.W.mg_of X G t2⟩, ⟨k3, PySem.W.mg_of X G t3⟩⟩
  have F2 := dt_back_of X G m2
  have F3 := dt_back X G m3
  have F6 := dt_moved X G m6
  have F7 := dt_letter_at X G m7
  have F8 := dt_strands_of X G m8
  have F9 := dt_strands_through X G m9
  have F10 := dt_is_strand X G m10
  have F11 := dt_room_of X G m11
  have F13 := dt_comes_first X G m13
  have F14 := dt_is_beside X G m14
  have F15 := dt_is_along X G m15
  have F16 := dt_is_against X G m16
  have F17 := dt_is_long X G m17
  have F18 := dt_is_link X G m18
  have F21 := dt_met_at X G m21
  have F22 := dt_run_on X G m22
  have F23 := dt_stands_first X G m23
  have F24 := dt_order_of X G m24
  have F25 := dt_tight X G m25
  have F27 := dt_run_along X G m27
  have F28 := dt_run_against X G m28
  have F29 := dt_links_of X G m29
  have F30 := dt_links X G m30
  have F32 := dt__law_tape X G m32
  have F33 := dt__law_draw X G m33
  have F34 := dt__law_back X G m34
  have F35 := dt__law_any_row X G m35
  have F36 := dt__law_inner X G m36
  have F37 := dt__law_rooted X G m37
  have F38 := dt__law_any_way X G m38
  have F39 := dt__law_some_ways X G m39
  have F40 := dt__law_all_strands X G m40
  have F41 := dt__law_all_spots X G m41
  have F42 := dt__law_all_chords X G m42
  have F43 := dt__law_crosses X G m43
  have F44 := dt__law_all_crossings X G m44
  have F45 := dt__law_count X G m45
  have F46 := dt__law_every_order X G m46
  have F47 := dt__law_every_drawing X G m47
  have F48 := dt__law_how_many X G m48
  have F49 := dt__law_small X G m49
  have F50 := dt__law_right X G m50
  obtain ⟨f, od, an, sl, oc, kV, dc, pm, cd, ct, a, lk, c, k⟩ := m51.ex
  have e := hfa.symm.trans (PySem.W.mg_of X G a)
  cases e
  refine ⟨PySem.W.fnOf "law" "law" (defArgs (topS 51)) (defBody (topS 51)) (defScope (topS 51)) .none kV dc pm an cd ct, fun s v => .of_eq rfl, fun base _ _ => ?_⟩
  have D2 := ok_back_of (P := l.prog) (w := w) (base := base) T F2
  have D3 := ok_back T F3 D2
  have D6 := ok_moved (P := l.prog) (w := w) (base := base) T F6
  have D7 := ok_letter_at (P := l.prog) (w := w) (base := base) T F7
  have D8 := ok_strands_of (P := l.prog) (w := w) (base := base) T F8
  have D9 := ok_through T F9 D8 D7
  have D10 := ok_is_strand (P := l.prog) (w := w) (base := base) T F10
  have D11 := ok_room_of (P := l.prog) (w := w) (base := base) T F11
  have D13 := ok_comes (P := l.prog) (w := w) (base := base) T F13
  have D14 := ok_beside T F14 D3 D7 D13
  have D15 := ok_along T F15 D3 D7 D11 D13
  have D16 := ok_against T F16 D3 D7 D6 D11 D13
  have D17 := ok_long (P := l.prog) (w := w) (base := base) T F17
  have D18 := ok_link T F18 D10 D17 D14 D15 D16
  have D21 := ok_met T F21 D3 D7
  have D22 := ok_run_on T F22 D21 D11
  have D23 := ok_fst T F23 D3 D7 D21 D22 D11 D13
  have D24 := ok_ord T F24 D23
  have D25 := ok_tight T F25 D24 D9
  have D27 := ok_runA T F27 D7 D11
  have D28 := ok_runG T F28 D3 D7 D11
  have D29 := ok_links_of T F29 D27 D28 D18
  have D30 := ok_links T F30 D29
  have D32 := ok_tape (P := l.prog) (w := w) (base := base) T F32
  have D33 := ok_draw (P := l.prog) (w := w) (base := base) T F33
  have D34 := ok_lback (P := l.prog) (w := w) (base := base) T F34
  have D35 := ok_any_row T F35 D33
  have D36 := ok_inner T F36 D34
  have D37 := ok_rooted (P := l.prog) (w := w) (base := base) T F37
  have D38 := ok_any_way T F38 D33 D36 D37
  have D39 := ok_some T F39 D33 D38 D34
  have D40 := ok_lstrands (P := l.prog) (w := w) (base := base) T F40
  have D41 := ok_spots (P := l.prog) (w := w) (base := base) T F41
  have D42 := ok_chords T F42 D41 D40 D34
  have D43 := ok_cross (P := l.prog) (w := w) (base := base) T F43
  have D44 := ok_crossings T F44 D42 D43
  have D45 := ok_count (P := l.prog) (w := w) (base := base) T F45
  have D46 := ok_eo (P := l.prog) (w := w) (base := base) T F46
  have D47 := ok_ed T F47 D40 D46
  have D48 := ok_how (P := l.prog) (w := w) (base := base) T F48
  have D49 := ok_small T F49 D39 D48
  have D50 := ok_right T F50 D30 D47 D44 D45 D25
  exact ok_law good T (fun_mk (st := topS 51) lk c k) D32 D35 D33 D50 D49
end Ly


set_option Elab.async false
set_option linter.all false
set_option maxRecDepth 100000
open PySem PySem.W PyProof.Rows
set_option maxHeartbeats 0 in
theorem PySem.Challenge.cw_ringwords_k41_whole_no_drawing_crosses_l_holds : PySem.Challenge.rw_ringwords_k41_whole_no_drawing_crosses_l.Holds := by
  w_on; o_law; k_head; (case hw => w_witness2)
  k_fill
  refine L2.walk_of (l := PySem.Challenge.rw_ringwords_k41_whole_no_drawing_crosses_l) (n := 63) (k := 9) (x := "_law_script") (CX := fun _ => L2.CX0) (sp := fun w => Ly.spLaw _) rfl (by decide) rfl ⟨rfl, by decide, by decide⟩ (fun w h Y => PySem.W.kIn_of Y) ?F (fun _ _ a ns hl _ hS => ⟨a, ns, rfl, hS, hl, fun _ => rfl⟩) (fun _ _ _ _ _ h => h)
  case F =>
    intro w mg fa h KX G hmg
    refine' Ly.all_mk KX G hmg (Ly.mk_of ?a2 ?l2 ?c2 ?k2) (Ly.mk_of ?a3 ?l3 ?c3 ?k3) (Ly.mk_of ?a6 ?l6 ?c6 ?k6) (Ly.mk_of ?a7 ?l7 ?c7 ?k7) (Ly.mk_of ?a8 ?l8 ?c8 ?k8) (Ly.mk_of ?a9 ?l9 ?c9 ?k9) (Ly.mk_of ?a10 ?l10 ?c10 ?k10) (Ly.mk_of ?a11 ?l11 ?c11 ?k11) (Ly.mk_of ?a13 ?l13 ?c13 ?k13) (Ly.mk_of ?a14 ?l14 ?c14 ?k14) (Ly.mk_of ?a15 ?l15 ?c15 ?k15) (Ly.mk_of ?a16 ?l16 ?c16 ?k16) (Ly.mk_of ?a17 ?l17 ?c17 ?k17) (Ly.mk_of ?a18 ?l18 ?c18 ?k18) (Ly.mk_of ?a21 ?l21 ?c21 ?k21) (Ly.mk_of ?a22 ?l22 ?c22 ?k22) (Ly.mk_of ?a23 ?l23 ?c23 ?k23) (Ly.mk_of ?a24 ?l24 ?c24 ?k24) (Ly.mk_of ?a25 ?l25 ?c25 ?k25) (Ly.mk_of ?a27 ?l27 ?c27 ?k27) (Ly.mk_of ?a28 ?l28 ?c28 ?k28) (Ly.mk_of ?a29 ?l29 ?c29 ?k29) (Ly.mk_of ?a30 ?l30 ?c30 ?k30) (Ly.mk_of ?a32 ?l32 ?c32 ?k32) (Ly.mk_of ?a33 ?l33 ?c33 ?k33) (Ly.mk_of ?a34 ?l34 ?c34 ?k34) (Ly.mk_of ?a35 ?l35 ?c35 ?k35) (Ly.mk_of ?a36 ?l36 ?c36 ?k36) (Ly.mk_of ?a37 ?l37 ?c37 ?k37) (Ly.mk_of ?a38 ?l38 ?c38 ?k38) (Ly.mk_of ?a39 ?l39 ?c39 ?k39) (Ly.mk_of ?a40 ?l40 ?c40 ?k40) (Ly.mk_of ?a41 ?l41 ?c41 ?k41) (Ly.mk_of ?a42 ?l42 ?c42 ?k42) (Ly.mk_of ?a43 ?l43 ?c43 ?k43) (Ly.mk_of ?a44 ?l44 ?c44 ?k44) (Ly.mk_of ?a45 ?l45 ?c45 ?k45) (Ly.mk_of ?a46 ?l46 ?c46 ?k46) (Ly.mk_of ?a47 ?l47 ?c47 ?k47) (Ly.mk_of ?a48 ?l48 ?c48 ?k48) (Ly.mk_of ?a49 ?l49 ?c49 ?k49) (Ly.mk_of ?a50 ?l50 ?c50 ?k50) (Ly.mk_of ?a51 ?l51 ?c51 ?k51) ?z_len ?z_range ?z_list ?z_tuple ?z_sum ?z_all ?z_min ?z_isi ?z_set ?z_sorted ?z_enum ?z_int ?z_bool ?z_str ?t1 ?t2 ?t3 ?u1 ?u2 ?u3
    (case a2 => k_is); (case l2 => k_is); (case c2 => k_is); (case k2 => k_is)
    (case a3 => k_is); (case l3 => k_is); (case c3 => k_is); (case k3 => k_is)
    (case a6 => k_is); (case l6 => k_is); (case c6 => k_is); (case k6 => k_is)
    (case a7 => k_is); (case l7 => k_is); (case c7 => k_is); (case k7 => k_is)
    (case a8 => k_is); (case l8 => k_is); (case c8 => k_is); (case k8 => k_is)
    (case a9 => k_is); (case l9 => k_is); (case c9 => k_is); (case k9 => k_is)
    (case a10 => k_is); (case l10 => k_is); (case c10 => k_is); (case k10 => k_is)
    (case a11 => k_is); (case l11 => k_is); (case c11 => k_is); (case k11 => k_is)
    (case a13 => k_is); (case l13 => k_is); (case c13 => k_is); (case k13 => k_is)
    (case a14 => k_is); (case l14 => k_is); (case c14 => k_is); (case k14 => k_is)
    (case a15 => k_is); (case l15 => k_is); (case c15 => k_is); (case k15 => k_is)
    (case a16 => k_is); (case l16 => k_is); (case c16 => k_is); (case k16 => k_is)
    (case a17 => k_is); (case l17 => k_is); (case c17 => k_is); (case k17 => k_is)
    (case a18 => k_is); (case l18 => k_is); (case c18 => k_is); (case k18 => k_is)
    (case a21 => k_is); (case l21 => k_is); (case c21 => k_is); (case k21 => k_is)
    (case a22 => k_is); (case l22 => k_is); (case c22 => k_is); (case k22 => k_is)
    (case a23 => k_is); (case l23 => k_is); (case c23 => k_is); (case k23 => k_is)
    (case a24 => k_is); (case l24 => k_is); (case c24 => k_is); (case k24 => k_is)
    (case a25 => k_is); (case l25 => k_is); (case c25 => k_is); (case k25 => k_is)
    (case a27 => k_is); (case l27 => k_is); (case c27 => k_is); (case k27 => k_is)
    (case a28 => k_is); (case l28 => k_is); (case c28 => k_is); (case k28 => k_is)
    (case a29 => k_is); (case l29 => k_is); (case c29 => k_is); (case k29 => k_is)
    (case a30 => k_is); (case l30 => k_is); (case c30 => k_is); (case k30 => k_is)
    (case a32 => k_is); (case l32 => k_is); (case c32 => k_is); (case k32 => k_is)
    (case a33 => k_is); (case l33 => k_is); (case c33 => k_is); (case k33 => k_is)
    (case a34 => k_is); (case l34 => k_is); (case c34 => k_is); (case k34 => k_is)
    (case a35 => k_is); (case l35 => k_is); (case c35 => k_is); (case k35 => k_is)
    (case a36 => k_is); (case l36 => k_is); (case c36 => k_is); (case k36 => k_is)
    (case a37 => k_is); (case l37 => k_is); (case c37 => k_is); (case k37 => k_is)
    (case a38 => k_is); (case l38 => k_is); (case c38 => k_is); (case k38 => k_is)
    (case a39 => k_is); (case l39 => k_is); (case c39 => k_is); (case k39 => k_is)
    (case a40 => k_is); (case l40 => k_is); (case c40 => k_is); (case k40 => k_is)
    (case a41 => k_is); (case l41 => k_is); (case c41 => k_is); (case k41 => k_is)
    (case a42 => k_is); (case l42 => k_is); (case c42 => k_is); (case k42 => k_is)
    (case a43 => k_is); (case l43 => k_is); (case c43 => k_is); (case k43 => k_is)
    (case a44 => k_is); (case l44 => k_is); (case c44 => k_is); (case k44 => k_is)
    (case a45 => k_is); (case l45 => k_is); (case c45 => k_is); (case k45 => k_is)
    (case a46 => k_is); (case l46 => k_is); (case c46 => k_is); (case k46 => k_is)
    (case a47 => k_is); (case l47 => k_is); (case c47 => k_is); (case k47 => k_is)
    (case a48 => k_is); (case l48 => k_is); (case c48 => k_is); (case k48 => k_is)
    (case a49 => k_is); (case l49 => k_is); (case c49 => k_is); (case k49 => k_is)
    (case a50 => k_is); (case l50 => k_is); (case c50 => k_is); (case k50 => k_is)
    (case a51 => k_is); (case l51 => k_is); (case c51 => k_is); (case k51 => k_is)
    (case z_len => k_is)
    (case z_range => k_is)
    (case z_list => k_is)
    (case z_tuple => k_is)
    (case z_sum => k_is)
    (case z_all => k_is)
    (case z_min => k_is)
    (case z_isi => k_is)
    (case z_set => k_is)
    (case z_sorted => k_is)
    (case z_enum => k_is)
    (case z_int => k_is)
    (case z_bool => k_is)
    (case z_str => k_is)
    (case t1 => k_is)
    (case t2 => k_is)
    (case t3 => k_is)
    (case u1 => exact ⟨_, rfl⟩)
    (case u2 => exact ⟨_, rfl⟩)
    (case u3 => exact ⟨_, rfl⟩)

