import PyProof.Rows.All
import Wide.All
import OpenK.AllK
import Wide.FinOn
import HandS.ForMost
import HandS.ForExc
import HandS.Zip
import HandS.IsInst
import HandS.ExcIs
import HandS.TupAny
import HandS.Wide
import HandS.Style
import KE.SortData
import KE.DataCmp
import HandS.Replace
import HandS.ReplaceLit
import KE.KIntText
import HandS.Walk
import PySem.Challenge.RW_felltimber_k11_whole_ladder_texts
set_option Elab.async false
set_option linter.all false
set_option maxRecDepth 100000
set_option maxHeartbeats 4000000
/-! Ma -/
namespace K11
/-! The plain law: ladders, their texts, the reader. Core Lean alone. -/
inductive Lad where
  | nil
  | cons (e : Lad) (m : Int) (r : Lad)
deriving DecidableEq

namespace Lad
def len : Lad → Nat
  | .nil => 0
  | .cons _ _ r => len r + 1
def parts : Lad → Nat
  | .nil => 0
  | .cons e _ r => 1 + parts e + parts r
def deep : Lad → Nat
  | .nil => 0
  | .cons e _ r => max (1 + deep e) (deep r)
def app : Lad → Lad → Lad
  | .nil, b => b
  | .cons e m r, b => .cons e m (app r b)
def lt : Lad → Lad → Bool
  | .nil, .nil => false
  | .nil, .cons _ _ _ => true
  | .cons _ _ _, .nil => false
  | .cons e m r, .cons e' m' r' => if e ≠ e' then lt e e' else if m ≠ m' then decide (m < m') else lt r r'
/-- the exponents fall -/
def falls : Lad → Bool
  | .nil => true
  | .cons e _ r => (match r with | .nil => true | .cons e' _ _ => lt e' e) && falls r
def ok : Lad → Bool
  | .nil => true
  | .cons e m r => (ok e && decide (1 ≤ m)) && (match r with | .nil => true | .cons e' _ _ => lt e' e) && ok r
/-- all numbers from 1 on, below 10 ^ w -/
def gd (w : Nat) : Lad → Prop
  | .nil => True
  | .cons e m r => gd w e ∧ (1 ≤ m ∧ m < 10 ^ w) ∧ gd w r
end Lad
open Lad
def one : Lad := .cons .nil 1 .nil

/-! ### digits -/
def isFig (c : Nat) : Bool := decide (48 ≤ c) && decide (c ≤ 57)
def val (ds : List Nat) : Nat := ds.foldl (fun n c => n * 10 + (c - 48)) 0
def dig (n : Nat) : List Nat := (Nat.toDigits 10 n).map Char.toNat
theorem digitChar_toNat : ∀ d : Nat, d < 10 → (Nat.digitChar d).toNat = 48 + d := by decide
theorem dig_lt {n : Nat} (h : n < 10) : dig n = [48 + n] := by
  unfold dig
  rw [Nat.toDigits_of_lt_base h, List.map_cons, List.map_nil, digitChar_toNat n h]
theorem dig_step {n : Nat} (h : 10 ≤ n) : dig n = dig (n / 10) ++ [48 + n % 10] := by
  have hm : n % 10 < 10 := Nat.mod_lt n (by decide)
  have t : Nat.toDigits 10 (n / 10) ++ Nat.toDigits 10 (n % 10) = Nat.toDigits 10 (10 * (n / 10) + n % 10) := Nat.toDigits_append_toDigits (by decide) (by omega) hm
  rw [Nat.div_add_mod] at t
  unfold dig
  rw [← t, List.map_append, Nat.toDigits_of_lt_base hm, List.map_cons, List.map_nil, digitChar_toNat _ hm]
theorem dig_fig (n : Nat) : ∀ c ∈ dig n, isFig c = true := by
  induction n using Nat.strongRecOn with
  | _ n ih =>
    by_cases h : n < 10
    · rw [dig_lt h]
      intro c hc
      have e : c = 48 + n := by simpa using hc
      subst e
      simp [isFig]
      omega
    · rw [dig_step (by omega)]
      intro c hc
      rcases List.mem_append.mp hc with hc | hc
      · exact ih (n / 10) (by omega) c hc
      · have e : c = 48 + n % 10 := by simpa using hc
        subst e
        simp [isFig]
        omega
theorem dig_ne (n : Nat) : dig n ≠ [] := by
  by_cases h : n < 10
  · rw [dig_lt h]; simp
  · rw [dig_step (by omega)]; simp
theorem val_snoc (ds : List Nat) (c : Nat) : val (ds ++ [c]) = val ds * 10 + (c - 48) := by
  unfold val
  rw [List.foldl_append]
  rfl
theorem val_dig (n : Nat) : val (dig n) = n := by
  induction n using Nat.strongRecOn with
  | _ n ih =>
    by_cases h : n < 10
    · rw [dig_lt h]
      show 0 * 10 + (48 + n - 48) = n
      omega
    · rw [dig_step (by omega), val_snoc, ih (n / 10) (by omega)]
      omega
theorem dig_len {w : Nat} : ∀ {n : Nat}, n < 10 ^ w → 1 ≤ w → (dig n).length ≤ w := by
  induction w with
  | zero => intro n _ h; omega
  | succ w ih =>
    intro n h _
    by_cases hn : n < 10
    · rw [dig_lt hn]; simp
    · rw [dig_step (by omega), List.length_append]
      have hw : 1 ≤ w := by
        rcases Nat.eq_zero_or_pos w with e | e
        · subst e; simp at h; omega
        · exact e
      have h1 : n / 10 < 10 ^ w := by
        rw [Nat.div_lt_iff_lt_mul (by decide)]
        rw [Nat.pow_succ] at h
        exact h
      have := ih h1 hw
      simp only [List.length_cons, List.length_nil]
      omega
theorem val_lt (ds : List Nat) (h : ∀ c ∈ ds, isFig c = true) : val ds < 10 ^ ds.length := by
  suffices H : ∀ (ds : List Nat) (a : Nat), (∀ c ∈ ds, isFig c = true) → ds.foldl (fun n c => n * 10 + (c - 48)) a < (a + 1) * 10 ^ ds.length by
    have := H ds 0 h
    simpa [val] using this
  intro ds
  induction ds with
  | nil => intro a _; simp
  | cons c ds ih =>
    intro a h
    have hc := h c List.mem_cons_self
    simp [isFig] at hc
    have := ih (a * 10 + (c - 48)) fun x hx => h x (List.mem_cons_of_mem _ hx)
    rw [List.foldl_cons, List.length_cons, Nat.pow_succ]
    refine Nat.lt_of_lt_of_le this ?_
    have e : (a + 1) * (10 ^ ds.length * 10) = ((a + 1) * 10) * 10 ^ ds.length := by
      rw [Nat.mul_assoc, Nat.mul_comm 10]
    rw [e]
    exact Nat.mul_le_mul_right _ (by omega)
theorem dig_val_len (ds : List Nat) (h : ∀ c ∈ ds, isFig c = true) (hn : ds ≠ []) : (dig (val ds)).length ≤ ds.length :=
  dig_len (val_lt ds h) (by cases ds with | nil => exact absurd rfl hn | cons _ _ => simp)

/-! ### the text of a ladder -/
/-- a pair: e its exponent, se that one's text -/
def showPair (e : Lad) (se : List Nat) (m : Int) : List Nat :=
  if e = .nil then dig m.toNat
  else 122 :: ((if e = one then [] else 91 :: (se ++ [93])) ++ (if m = 1 then [] else 42 :: dig m.toNat))
def shows : Lad → List Nat
  | .nil => []
  | .cons e m r => showPair e (shows e) m ++ (if r = .nil then [] else 43 :: shows r)
def sh (l : Lad) : List Nat := if l = .nil then [48] else shows l

/-! ### the reader: w figures at most, d deep -/
abbrev Rdr := List Nat → Option (Lad × List Nat)
def pNum (w : Nat) (t : List Nat) : Option (Int × List Nat) :=
  if t.takeWhile isFig = [] ∨ w < (t.takeWhile isFig).length then none else some ((val (t.takeWhile isFig) : Int), t.dropWhile isFig)
def pExp (pl : Rdr) : List Nat → Option (Lad × List Nat)
  | 91 :: t => match pl t with
    | some (e, 93 :: r) => some (e, r)
    | _ => none
  | t => some (one, t)
def pMany (w : Nat) : List Nat → Option (Int × List Nat)
  | 42 :: t => pNum w t
  | t => some (1, t)
def pPair (w : Nat) (pl : Rdr) : List Nat → Option (Lad × Int × List Nat)
  | 122 :: t => (pExp pl t).bind fun x => (pMany w x.2).map fun y => (x.1, y.1, y.2)
  | t => (pNum w t).map fun y => (.nil, y.1, y.2)
def pLoop (w : Nat) (pl : Rdr) : Nat → Rdr
  | 0, _ => none
  | f + 1, t => (pPair w pl t).bind fun x => match x.2.2 with
    | 43 :: r => (pLoop w pl f r).map fun y => (.cons x.1 x.2.1 y.1, y.2)
    | r => some (.cons x.1 x.2.1 .nil, r)
def pLad (w : Nat) : Nat → Rdr
  | 0, _ => none
  | d + 1, t => pLoop w (pLad w d) (t.length + 1) t
def good (t : List Nat) (l : Lad) : Bool := l.ok && decide (sh l = t) && decide (l.parts ≤ 60) && decide (l.deep ≤ 12)
def due (d : Nat) (t : List Nat) : Option Lad :=
  if t = [48] then some .nil else match pLad 60 d t with
    | some (l, []) => if good t l then some l else none
    | _ => none
def rd (t : List Nat) : Option Lad := due 12 t

def never : List String := ["1_0", "z*1_0", "+5", "z*+5", "z* 5", "-5", "z*-5", "z[]", "z[z", "z]", "z**2", "z*", "z*z", "zz", "z[2]3",
  "5+5", "z+z", "1+z", "z+z[2]", "z[0]", "z[1]", "z[2]*1", "z*0"]
theorem never_none : ∀ s ∈ never, rd (s.toList.map Char.toNat) = none := by decide +kernel
end K11
/-! Mb -/
namespace K11
open Lad
/-! ### the reader reads what is shown -/
def nofig (r : List Nat) : Prop := ∀ c r', r = c :: r' → isFig c = false
theorem take_app (ds r : List Nat) (h : ∀ c ∈ ds, isFig c = true) (hr : nofig r) : (ds ++ r).takeWhile isFig = ds ∧ (ds ++ r).dropWhile isFig = r := by
  induction ds with
  | nil =>
    cases r with
    | nil => exact ⟨rfl, rfl⟩
    | cons c r =>
      have hc := hr c r rfl
      simp [hc]
  | cons c ds ih =>
    have hc := h c List.mem_cons_self
    have := ih fun x hx => h x (List.mem_cons_of_mem _ hx)
    simp only [List.cons_append, List.takeWhile_cons, List.dropWhile_cons, hc, if_true, this]
    exact ⟨trivial, trivial⟩
theorem pNum_dig {w n : Nat} {r : List Nat} (hn : n < 10 ^ w) (hw : 1 ≤ w) (hr : nofig r) : pNum w (dig n ++ r) = some ((n : Int), r) := by
  obtain ⟨h1, h2⟩ := take_app (dig n) r (dig_fig n) hr
  unfold pNum
  rw [h1, h2, val_dig, if_neg]
  intro q
  rcases q with q | q
  · exact dig_ne n q
  · exact absurd (dig_len hn hw) (by omega)
theorem pNum_int {w : Nat} {m : Int} {r : List Nat} (h1 : 1 ≤ m) (hm : m < 10 ^ w) (hw : 1 ≤ w) (hr : nofig r) : pNum w (dig m.toNat ++ r) = some (m, r) := by
  have h : m.toNat < 10 ^ w := by
    have : ((m.toNat : Nat) : Int) < ((10 ^ w : Nat) : Int) := by
      rw [Int.toNat_of_nonneg (by omega)]
      simpa using hm
    omega
  rw [pNum_dig h hw hr, Int.toNat_of_nonneg (by omega)]
/-- behind a pair -/
def stp (r : List Nat) : Prop := ∀ c r', r = c :: r' → isFig c = false ∧ c ≠ 91 ∧ c ≠ 42
theorem stp.nofig {r : List Nat} (h : stp r) : nofig r := fun c r' e => (h c r' e).1
theorem stp_nil : stp [] := fun _ _ e => nomatch e
theorem stp_43 (r : List Nat) : stp (43 :: r) := fun c r' e => by cases e; exact ⟨rfl, by decide, by decide⟩
theorem stp_93 (r : List Nat) : stp (93 :: r) := fun c r' e => by cases e; exact ⟨rfl, by decide, by decide⟩
theorem pMany_one {w : Nat} {r : List Nat} (h : stp r) : pMany w r = some (1, r) := by
  cases r with
  | nil => rfl
  | cons c r =>
    have hc := (h c r rfl).2.2
    unfold pMany
    split
    · rename_i t e; cases e; exact absurd rfl hc
    · rfl
theorem pMany_star {w : Nat} {m : Int} {r : List Nat} (h1 : 1 ≤ m) (hm : m < 10 ^ w) (hw : 1 ≤ w) (h : stp r) : pMany w (42 :: (dig m.toNat ++ r)) = some (m, r) := pNum_int h1 hm hw h.nofig
theorem pExp_one {pl : Rdr} {r : List Nat} (h : ∀ t, r ≠ 91 :: t) : pExp pl r = some (one, r) := by
  unfold pExp
  split
  · rename_i t; exact absurd rfl (h t)
  · rfl
theorem many_ok {w : Nat} {m : Int} {r : List Nat} (h1 : 1 ≤ m) (hm : m < 10 ^ w) (hw : 1 ≤ w) (h : stp r) : pMany w ((if m = 1 then [] else 42 :: dig m.toNat) ++ r) = some (m, r) := by
  by_cases e : m = 1
  · subst e
    rw [if_pos rfl]
    exact pMany_one h
  · rw [if_neg e]
    exact pMany_star h1 hm hw h
theorem many_head {m : Int} {r : List Nat} (h : stp r) : ∀ t, (if m = 1 then [] else 42 :: dig m.toNat) ++ r ≠ 91 :: t := by
  intro t
  by_cases e : m = 1
  · rw [if_pos e]
    intro q
    exact (h 91 t q).2.1 rfl
  · rw [if_neg e]
    intro q
    cases q
theorem head_fig {n : Nat} {r : List Nat} : ∃ c t, dig n ++ r = c :: t ∧ isFig c = true := by
  cases h : dig n with
  | nil => exact absurd h (dig_ne n)
  | cons c t =>
    refine ⟨c, t ++ r, rfl, dig_fig n c ?_⟩
    rw [h]
    exact List.mem_cons_self
theorem pPair_num {w : Nat} {pl : Rdr} {t : List Nat} (h : ∀ r, t ≠ 122 :: r) : pPair w pl t = (pNum w t).map fun y => (.nil, y.1, y.2) := by
  unfold pPair
  split
  · rename_i r; exact absurd rfl (h r)
  · rfl
theorem pPair_show {w : Nat} {pl : Rdr} {e : Lad} {m : Int} {r : List Nat} (hpl : e ≠ .nil → ∀ q, pl (shows e ++ 93 :: q) = some (e, 93 :: q)) (h1 : 1 ≤ m) (hm : m < 10 ^ w) (hw : 1 ≤ w) (h : stp r) : pPair w pl (showPair e (shows e) m ++ r) = some (e, m, r) := by
  unfold showPair
  by_cases he : e = .nil
  · subst he
    rw [if_pos rfl, pPair_num, pNum_int h1 hm hw h.nofig]
    · rfl
    · intro q eq
      obtain ⟨c, t, e1, e2⟩ := head_fig (n := m.toNat) (r := r)
      rw [e1] at eq
      cases eq
      exact absurd e2 (by decide)
  · rw [if_neg he]
    show (pExp pl (_ ++ r)).bind _ = _
    rw [List.append_assoc]
    have hx : pExp pl ((if e = one then [] else 91 :: (shows e ++ [93])) ++ ((if m = 1 then [] else 42 :: dig m.toNat) ++ r)) = some (e, (if m = 1 then [] else 42 :: dig m.toNat) ++ r) := by
      by_cases ho : e = one
      · subst ho
        rw [if_pos rfl]
        exact pExp_one (many_head h)
      · rw [if_neg ho]
        have := hpl he ((if m = 1 then [] else 42 :: dig m.toNat) ++ r)
        show (match pl (shows e ++ [93] ++ ((if m = 1 then [] else 42 :: dig m.toNat) ++ r)) with
          | some (e, 93 :: r) => some (e, r)
          | _ => none) = _
        rw [List.append_assoc]
        simp only [List.cons_append, List.nil_append] at this ⊢
        rw [this]
        rfl
    rw [hx]
    show (pMany w _).map _ = _
    rw [many_ok h1 hm hw h]
    rfl
theorem shows_pos {l : Lad} (h : l ≠ .nil) : shows l ≠ [] := by
  cases l with
  | nil => exact absurd rfl h
  | cons e m r =>
    unfold shows showPair
    intro q
    have q1 := (List.append_eq_nil_iff.mp q).1
    split at q1
    · exact dig_ne _ q1
    · cases q1
theorem len_shows : ∀ l : Lad, l.len ≤ (shows l).length
  | .nil => Nat.le_refl _
  | .cons e m r => by
    have ih := len_shows r
    unfold shows len
    have h1 : 1 ≤ (showPair e (shows e) m).length := by
      unfold showPair
      split
      · have := dig_ne m.toNat
        cases hd : dig m.toNat with
        | nil => exact absurd hd this
        | cons _ _ => simp
      · simp
    rw [List.length_append]
    by_cases hr : r = .nil
    · subst hr
      simp [len]
      omega
    · rw [if_neg hr, List.length_cons]
      omega
/-- behind a ladder -/
def stop (r : List Nat) : Prop := stp r ∧ ∀ t, r ≠ 43 :: t
theorem stop_nil : stop [] := ⟨stp_nil, fun _ e => nomatch e⟩
theorem stop_93 (r : List Nat) : stop (93 :: r) := ⟨stp_93 r, fun _ e => nomatch e⟩
theorem pLoop_one {w f : Nat} {pl : Rdr} {e : Lad} {m : Int} {t r : List Nat} (hp : pPair w pl t = some (e, m, r)) (h : ∀ q, r ≠ 43 :: q) : pLoop w pl (f + 1) t = some (.cons e m .nil, r) := by
  rw [pLoop, hp, Option.bind_some]
  dsimp only
  split
  · rename_i q; exact absurd rfl (h q)
  · rfl
theorem pLoop_more {w f : Nat} {pl : Rdr} {e : Lad} {m : Int} {t r : List Nat} (hp : pPair w pl t = some (e, m, 43 :: r)) : pLoop w pl (f + 1) t = (pLoop w pl f r).map fun y => (.cons e m y.1, y.2) := by
  rw [pLoop, hp, Option.bind_some]
  rfl
theorem loop_shows {w : Nat} (hw : 1 ≤ w) : ∀ (l : Lad) (d f : Nat) (r : List Nat), l ≠ .nil → gd w l → l.deep ≤ d + 1 → l.len ≤ f → stop r → pLoop w (pLad w d) f (shows l ++ r) = some (l, r)
  | .nil, _, _, _, h, _, _, _, _ => absurd rfl h
  | .cons e m r, d, f, q, _, ⟨ge, ⟨m1, m2⟩, gr⟩, hd, hf, hq => by
    have hde : 1 + e.deep ≤ d + 1 := Nat.le_trans (Nat.le_max_left _ _) hd
    have hdr : r.deep ≤ d + 1 := Nat.le_trans (Nat.le_max_right _ _) hd
    have hpl : e ≠ .nil → ∀ q, pLad w d (shows e ++ 93 :: q) = some (e, 93 :: q) := fun he q => by
      cases d with
      | zero =>
        cases e with
        | nil => exact absurd rfl he
        | cons _ _ _ => simp [deep] at hde; omega
      | succ d =>
        refine loop_shows hw e d _ _ he ge (by omega) ?_ (stop_93 q)
        have := len_shows e
        rw [List.length_append]
        omega
    cases f with
    | zero => simp [len] at hf
    | succ f =>
      unfold shows
      rw [List.append_assoc]
      by_cases hr : r = .nil
      · subst hr
        rw [if_pos rfl]
        exact pLoop_one (pPair_show hpl m1 m2 hw hq.1) hq.2
      · rw [if_neg hr]
        have ih := loop_shows hw r d f q hr gr hdr (by simpa [len] using hf) hq
        have hp := pPair_show (r := 43 :: (shows r ++ q)) hpl m1 m2 hw (stp_43 _)
        show pLoop w (pLad w d) (f + 1) (showPair e (shows e) m ++ 43 :: (shows r ++ q)) = _
        rw [pLoop_more hp, ih]
        rfl
theorem lad_shows {w d : Nat} {l : Lad} {r : List Nat} (hw : 1 ≤ w) (hl : l ≠ .nil) (g : gd w l) (hd : l.deep ≤ d) (hr : stop r) : pLad w d (shows l ++ r) = some (l, r) := by
  cases d with
  | zero =>
    cases l with
    | nil => exact absurd rfl hl
    | cons _ _ _ => simp [deep] at hd
  | succ d =>
    refine loop_shows hw l d _ r hl g hd ?_ hr
    have := len_shows l
    rw [List.length_append]
    omega

/-! ### two ladders of one text are one -/
theorem gd_mono {w v : Nat} (h : w ≤ v) : ∀ l, gd w l → gd v l
  | .nil, _ => trivial
  | .cons e m r, ⟨a, ⟨b, c⟩, d⟩ => ⟨gd_mono h e a, ⟨b, by
      have : (10 : Int) ^ w ≤ 10 ^ v := by exact_mod_cast Nat.pow_le_pow_right (by decide) h
      omega⟩, gd_mono h r d⟩
/-- all numbers from 1 on -/
def g1 : Lad → Prop
  | .nil => True
  | .cons e m r => g1 e ∧ 1 ≤ m ∧ g1 r
theorem g1_of {w : Nat} : ∀ {l : Lad}, gd w l → g1 l
  | .nil, _ => trivial
  | .cons _ _ _, ⟨a, ⟨b, _⟩, d⟩ => ⟨g1_of a, b, g1_of d⟩
theorem g1_ok : ∀ {l : Lad}, l.ok = true → g1 l
  | .nil, _ => trivial
  | .cons e m r, h => by
    unfold ok at h
    simp only [Bool.and_eq_true, decide_eq_true_eq] at h
    exact ⟨g1_ok h.1.1.1, h.1.1.2, g1_ok h.2⟩
theorem lt_ten (n : Nat) : n < 10 ^ n := Nat.lt_pow_self (by decide)
theorem gd_ex : ∀ l : Lad, g1 l → ∃ w, 1 ≤ w ∧ gd w l
  | .nil, _ => ⟨1, Nat.le_refl _, trivial⟩
  | .cons e m r, ⟨a, b, c⟩ => by
    obtain ⟨w1, h1, g1⟩ := gd_ex e a
    obtain ⟨w2, h2, g2⟩ := gd_ex r c
    refine ⟨w1 + w2 + m.toNat, by omega, gd_mono (by omega) e g1, ⟨b, ?_⟩, gd_mono (by omega) r g2⟩
    have h : m.toNat < 10 ^ (w1 + w2 + m.toNat) := Nat.lt_of_lt_of_le (lt_ten _) (Nat.pow_le_pow_right (by decide) (by omega))
    have h' : ((m.toNat : Nat) : Int) < ((10 ^ (w1 + w2 + m.toNat) : Nat) : Int) := by omega
    rw [Int.toNat_of_nonneg (by omega)] at h'
    simpa using h'
theorem shows_inj {l k : Lad} (hl : g1 l) (hk : g1 k) (nl : l ≠ .nil) (nk : k ≠ .nil) (e : shows l = shows k) : l = k := by
  obtain ⟨w1, h1, a1⟩ := gd_ex l hl
  obtain ⟨w2, h2, a2⟩ := gd_ex k hk
  have x := lad_shows (w := w1 + w2) (d := l.deep + k.deep) (r := []) (by omega) nl (gd_mono (by omega) l a1) (by omega) stop_nil
  have y := lad_shows (w := w1 + w2) (d := l.deep + k.deep) (r := []) (by omega) nk (gd_mono (by omega) k a2) (by omega) stop_nil
  rw [e] at x
  rw [x] at y
  simpa using y
end K11
/-! Mc -/
namespace K11
open Lad
/-! ### what is read -/
/-- no number below nought, none of more than w figures -/
def g0 (w : Nat) : Lad → Prop
  | .nil => True
  | .cons e m r => g0 w e ∧ (0 ≤ m ∧ m < 10 ^ w) ∧ g0 w r
theorem gd_of : ∀ {w : Nat} {l : Lad}, g0 w l → g1 l → gd w l
  | _, .nil, _, _ => trivial
  | _, .cons _ _ _, ⟨a, ⟨_, b⟩, c⟩, ⟨d, f, g⟩ => ⟨gd_of a d, ⟨f, b⟩, gd_of c g⟩
theorem take_fig (t : List Nat) : ∀ c ∈ t.takeWhile isFig, isFig c = true := by
  induction t with
  | nil => intro c h; simp at h
  | cons a t ih =>
    intro c h
    rw [List.takeWhile_cons] at h
    split at h
    · rcases List.mem_cons.mp h with e | h
      · subst e; assumption
      · exact ih c h
    · simp at h
theorem pNum_some {w : Nat} {t : List Nat} {m : Int} {r : List Nat} (h : pNum w t = some (m, r)) : (0 ≤ m ∧ m < 10 ^ w) ∧ r.length < t.length := by
  unfold pNum at h
  split at h
  · cases h
  · rename_i hn
    simp only [not_or, Nat.not_lt] at hn
    have e1 : ((val (t.takeWhile isFig) : Nat) : Int) = m := by injection h with h; injection h
    have e2 : t.dropWhile isFig = r := by injection h with h; injection h
    have hv := val_lt _ (take_fig t)
    have hw : 10 ^ (t.takeWhile isFig).length ≤ 10 ^ w := Nat.pow_le_pow_right (by decide) hn.2
    have hl : (t.takeWhile isFig).length + (t.dropWhile isFig).length = t.length := by
      rw [← List.length_append, List.takeWhile_append_dropWhile]
    have hp : 0 < (t.takeWhile isFig).length := List.length_pos_iff.mpr hn.1
    refine ⟨⟨by omega, ?_⟩, by rw [← e2]; omega⟩
    have : (val (t.takeWhile isFig) : Int) < ((10 ^ w : Nat) : Int) := by omega
    rw [← e1]
    simpa using this
/-- what is asked of a reader of ladders -/
structure Fine (w : Nat) (pl : Rdr) : Prop where
  g : ∀ t l r, pl t = some (l, r) → g0 w l
  p : ∀ t l r, pl t = some (l, r) → l.parts + 2 * r.length ≤ 2 * t.length ∧ r.length < t.length
theorem g0_one {w : Nat} (hw : 1 ≤ w) : g0 w one := by
  have : (10 : Int) ^ 1 ≤ 10 ^ w := by exact_mod_cast Nat.pow_le_pow_right (by decide) hw
  exact ⟨trivial, ⟨by decide, by omega⟩, trivial⟩
theorem pExp_fine {w : Nat} {pl : Rdr} (hw : 1 ≤ w) (F : Fine w pl) {t : List Nat} {e : Lad} {r : List Nat} (h : pExp pl t = some (e, r)) : g0 w e ∧ e.parts + 2 * r.length ≤ 2 * t.length + 1 ∧ r.length ≤ t.length := by
  unfold pExp at h
  split at h
  · rename_i t
    split at h
    · rename_i e' r' hp
      cases h
      have g := F.g _ _ _ hp
      have p := F.p _ _ _ hp
      simp only [List.length_cons] at p ⊢
      exact ⟨g, by omega, by omega⟩
    · cases h
  · cases h
    exact ⟨g0_one hw, by show 1 + 0 + 0 + _ ≤ _; omega, Nat.le_refl _⟩
theorem pMany_fine {w : Nat} (hw : 1 ≤ w) {t : List Nat} {m : Int} {r : List Nat} (h : pMany w t = some (m, r)) : (0 ≤ m ∧ m < 10 ^ w) ∧ r.length ≤ t.length := by
  unfold pMany at h
  split at h
  · have := pNum_some h
    exact ⟨this.1, by simp; omega⟩
  · cases h
    have : (10 : Int) ^ 1 ≤ 10 ^ w := by exact_mod_cast Nat.pow_le_pow_right (by decide) hw
    exact ⟨⟨by decide, by omega⟩, Nat.le_refl _⟩
theorem pPair_fine {w : Nat} {pl : Rdr} (hw : 1 ≤ w) (F : Fine w pl) {t : List Nat} {e : Lad} {m : Int} {r : List Nat} (h : pPair w pl t = some (e, m, r)) : (g0 w e ∧ (0 ≤ m ∧ m < 10 ^ w)) ∧ 1 + e.parts + 2 * r.length ≤ 2 * t.length ∧ r.length < t.length := by
  unfold pPair at h
  split at h
  · rename_i t
    cases hx : pExp pl t with
    | none => rw [hx] at h; cases h
    | some x =>
      rw [hx] at h
      have h' : (pMany w x.2).map (fun y => (x.1, y.1, y.2)) = some (e, m, r) := h
      cases hy : pMany w x.2 with
      | none => rw [hy] at h'; cases h'
      | some y =>
        rw [hy] at h'
        cases h'
        have a := pExp_fine hw F hx
        have b := pMany_fine hw hy
        simp only [List.length_cons]
        exact ⟨⟨a.1, b.1⟩, by omega, by omega⟩
  · cases hy : pNum w t with
    | none => rw [hy] at h; cases h
    | some y =>
      rw [hy] at h
      cases h
      have a := pNum_some hy
      exact ⟨⟨trivial, a.1⟩, by show 1 + 0 + _ ≤ _; omega, a.2⟩
theorem pLoop_cases {w f : Nat} {pl : Rdr} {t : List Nat} {l : Lad} {r : List Nat} (h : pLoop w pl (f + 1) t = some (l, r)) :
    ∃ e m q, pPair w pl t = some (e, m, q) ∧ ((∃ q' l', q = 43 :: q' ∧ pLoop w pl f q' = some (l', r) ∧ l = .cons e m l') ∨ ((∀ q', q ≠ 43 :: q') ∧ l = .cons e m .nil ∧ r = q)) := by
  cases hp : pPair w pl t with
  | none => rw [pLoop, hp] at h; cases h
  | some x =>
    obtain ⟨e, m, q⟩ := x
    refine ⟨e, m, q, rfl, ?_⟩
    by_cases hq : ∃ q', q = 43 :: q'
    · obtain ⟨q', rfl⟩ := hq
      rw [pLoop_more hp] at h
      cases hl : pLoop w pl f q' with
      | none => rw [hl] at h; cases h
      | some y =>
        rw [hl] at h
        cases h
        exact .inl ⟨q', y.1, rfl, hl, rfl⟩
    · have hq' : ∀ q', q ≠ 43 :: q' := fun q' e => hq ⟨q', e⟩
      rw [pLoop_one hp hq'] at h
      cases h
      exact .inr ⟨hq', rfl, rfl⟩
theorem pLoop_fine {w : Nat} {pl : Rdr} (hw : 1 ≤ w) (F : Fine w pl) : ∀ (f : Nat) (t : List Nat) (l : Lad) (r : List Nat), pLoop w pl f t = some (l, r) → g0 w l ∧ l.parts + 2 * r.length ≤ 2 * t.length ∧ r.length < t.length
  | 0, _, _, _, h => by cases h
  | f + 1, t, l, r, h => by
    obtain ⟨e, m, q, hp, c⟩ := pLoop_cases h
    have a := pPair_fine hw F hp
    rcases c with ⟨q', l', rfl, hl, rfl⟩ | ⟨_, rfl, rfl⟩
    · have b := pLoop_fine hw F f q' l' r hl
      have a2 := a.2
      simp only [List.length_cons] at a2
      refine ⟨⟨a.1.1, a.1.2, b.1⟩, ?_, by omega⟩
      show 1 + e.parts + l'.parts + _ ≤ _
      omega
    · refine ⟨⟨a.1.1, a.1.2, trivial⟩, ?_, a.2.2⟩
      show 1 + e.parts + 0 + _ ≤ _
      omega
theorem lad_fine {w : Nat} (hw : 1 ≤ w) : ∀ d, Fine w (pLad w d)
  | 0 => ⟨fun _ _ _ h => (nomatch h), fun _ _ _ h => (nomatch h)⟩
  | d + 1 => ⟨fun t l r h => (pLoop_fine hw (lad_fine hw d) _ t l r h).1, fun t l r h => (pLoop_fine hw (lad_fine hw d) _ t l r h).2⟩

/-! ### how deep one may read -/
theorem pPair_deeper {w k : Nat} {pl pl' : Rdr} (H : ∀ t e r, pl t = some (e, r) → e.deep ≤ k → pl' t = some (e, r)) {t : List Nat} {e : Lad} {m : Int} {r : List Nat} (h : pPair w pl t = some (e, m, r)) (hk : e.deep ≤ k) : pPair w pl' t = some (e, m, r) := by
  by_cases h122 : ∃ t', t = 122 :: t'
  · obtain ⟨t', rfl⟩ := h122
    have h' : ((pExp pl t').bind fun x => (pMany w x.2).map fun y => (x.1, y.1, y.2)) = some (e, m, r) := h
    show ((pExp pl' t').bind fun x => (pMany w x.2).map fun y => (x.1, y.1, y.2)) = some (e, m, r)
    cases hx : pExp pl t' with
    | none => rw [hx] at h'; cases h'
    | some x =>
      obtain ⟨e0, q⟩ := x
      rw [hx] at h'
      have e0e : e0 = e := by
        have h2 : (pMany w q).map (fun y => (e0, y.1, y.2)) = some (e, m, r) := h'
        cases hy : pMany w q with
        | none => rw [hy] at h2; cases h2
        | some y => rw [hy] at h2; cases h2; rfl
      subst e0e
      have hx' : pExp pl' t' = some (e0, q) := by
        by_cases h91 : ∃ t2, t' = 91 :: t2
        · obtain ⟨t2, rfl⟩ := h91
          have g : (match pl t2 with | some (e, 93 :: r) => some (e, r) | _ => none) = some (e0, q) := hx
          show (match pl' t2 with | some (e, 93 :: r) => some (e, r) | _ => none) = some (e0, q)
          split at g
          · rename_i e1 r1 hp
            cases g
            rw [H _ _ _ hp hk]
            rfl
          · cases g
        · have h91' : ∀ t2, t' ≠ 91 :: t2 := fun t2 e => h91 ⟨t2, e⟩
          rw [pExp_one h91'] at hx ⊢
          exact hx
      rw [hx']
      exact h'
  · have h' : ∀ t', t ≠ 122 :: t' := fun t' e => h122 ⟨t', e⟩
    rw [pPair_num h'] at h ⊢
    exact h
theorem pLoop_deeper {w k : Nat} {pl pl' : Rdr} (H : ∀ t e r, pl t = some (e, r) → e.deep ≤ k → pl' t = some (e, r)) : ∀ (f : Nat) {t : List Nat} {l : Lad} {r : List Nat}, pLoop w pl f t = some (l, r) → l.deep ≤ k + 1 → pLoop w pl' f t = some (l, r)
  | 0, _, _, _, h, _ => by cases h
  | f + 1, t, l, r, h, hk => by
    obtain ⟨e, m, q, hp, c⟩ := pLoop_cases h
    rcases c with ⟨q', l', rfl, hl, rfl⟩ | ⟨hn, rfl, rfl⟩
    · have h1 : 1 + e.deep ≤ k + 1 := Nat.le_trans (Nat.le_max_left _ _) hk
      have h2 : l'.deep ≤ k + 1 := Nat.le_trans (Nat.le_max_right _ _) hk
      rw [pLoop_more (pPair_deeper H hp (by omega)), pLoop_deeper H f hl h2]
      rfl
    · have h1 : 1 + e.deep ≤ k + 1 := Nat.le_trans (Nat.le_max_left _ _) hk
      exact pLoop_one (pPair_deeper H hp (by omega)) hn
theorem pLoop_cons {w f : Nat} {pl : Rdr} {t : List Nat} {l : Lad} {r : List Nat} (h : pLoop w pl f t = some (l, r)) : 1 ≤ l.deep := by
  cases f with
  | zero => cases h
  | succ f =>
    obtain ⟨e, m, q, hp, c⟩ := pLoop_cases h
    rcases c with ⟨q', l', rfl, hl, rfl⟩ | ⟨hn, rfl, rfl⟩
    · exact Nat.le_trans (by omega) (Nat.le_max_left (1 + e.deep) _)
    · exact Nat.le_trans (by omega) (Nat.le_max_left (1 + e.deep) _)
theorem lad_deeper {w : Nat} : ∀ (d d' : Nat) {t : List Nat} {l : Lad} {r : List Nat}, pLad w d t = some (l, r) → l.deep ≤ d' → pLad w d' t = some (l, r)
  | 0, _, _, _, _, h, _ => by cases h
  | d + 1, 0, _, _, _, h, hd => by
    have := pLoop_cons h
    omega
  | d + 1, d' + 1, t, l, r, h, hd => pLoop_deeper (k := d') (fun _ _ _ h hk => lad_deeper d d' h hk) _ h hd
theorem due_rd {d : Nat} (hd : 12 ≤ d) (t : List Nat) : due d t = rd t := by
  have some_of : ∀ (a b : Nat), 12 ≤ a → 12 ≤ b → ∀ l, due a t = some l → due b t = some l := by
    intro a b ha hb l h
    unfold due at h ⊢
    split at h
    · rename_i e
      rw [if_pos e]
      exact h
    · rename_i e
      rw [if_neg e]
      split at h
      · rename_i l' hp
        split at h
        · rename_i hg
          cases h
          have hdp : l.deep ≤ 12 := by
            unfold good at hg
            simp only [Bool.and_eq_true, decide_eq_true_eq] at hg
            exact hg.2
          rw [lad_deeper a b hp (by omega)]
          show (if good t l = true then some l else none) = _
          rw [if_pos hg]
        · cases h
      · cases h
  cases h : due d t with
  | some l => exact (some_of d 12 hd (Nat.le_refl _) l h).symm
  | none =>
    cases h' : rd t with
    | none => rfl
    | some l =>
      rw [some_of 12 d (Nat.le_refl _) hd l h'] at h
      cases h

/-! ### read, and refused -/
theorem rd_some {t : List Nat} {l : Lad} (h : rd t = some l) : sh l = t ∧ l.ok = true ∧ l.parts ≤ 60 ∧ l.deep ≤ 12 ∧ gd 60 l := by
  unfold rd due at h
  split at h
  · rename_i e
    cases h
    exact ⟨e.symm, rfl, by decide, by decide, trivial⟩
  · split at h
    · rename_i l' hp
      split at h
      · rename_i hg
        cases h
        have g := (lad_fine (w := 60) (by decide) 12).g _ _ _ hp
        unfold good at hg
        simp only [Bool.and_eq_true, decide_eq_true_eq] at hg
        exact ⟨hg.1.1.2, hg.1.1.1, hg.1.2, hg.2, gd_of g (g1_ok hg.1.1.1)⟩
      · cases h
    · cases h
theorem sh_shows {l : Lad} (h : l ≠ .nil) : sh l = shows l := if_neg h
theorem rd_sh {l : Lad} (ho : l.ok = true) (g : gd 60 l) (hp : l.parts ≤ 60) (hd : l.deep ≤ 12) : rd (sh l) = some l := by
  by_cases hn : l = .nil
  · subst hn; rfl
  · have hg : good (sh l) l = true := by
      unfold good
      simp [ho, hp, hd]
    have hr : pLad 60 12 (sh l) = some (l, []) := by
      have := lad_shows (w := 60) (d := 12) (r := []) (by decide) hn g hd stop_nil
      rw [sh_shows hn]
      simpa using this
    unfold rd due
    split
    · rename_i e
      rw [e] at hr
      have : pLad 60 12 [48] = some (.cons .nil 0 .nil, []) := by decide
      rw [this] at hr
      cases hr
      simp [ok] at ho
    · rw [hr]
      show (if good (sh l) l = true then some l else none) = _
      rw [if_pos hg]
/-! the signs that may stand behind one another; 1000 is a 1 behind a star -/
def dgt (c : Nat) : Bool := decide (48 ≤ c) && decide (c ≤ 57)
def st (p c : Nat) : Option Nat :=
  if p = 43 ∨ p = 91 then (if c = 122 ∨ (49 ≤ c ∧ c ≤ 57) then some c else none)
  else if p = 122 then (if c = 91 ∨ c = 42 ∨ c = 43 ∨ c = 93 then some c else none)
  else if p = 93 then (if c = 42 ∨ c = 43 ∨ c = 93 then some c else none)
  else if p = 42 then (if c = 49 then some 1000 else if 49 ≤ c ∧ c ≤ 57 then some c else none)
  else if 48 ≤ p ∧ p ≤ 57 then (if (48 ≤ c ∧ c ≤ 57) ∨ c = 43 ∨ c = 93 then some c else none)
  else if p = 1000 then (if 48 ≤ c ∧ c ≤ 57 then some c else none)
  else none
def run : Nat → List Nat → Option Nat
  | p, [] => some p
  | p, c :: t => (st p c).bind fun q => run q t
theorem run_app (p : Nat) (a b : List Nat) : run p (a ++ b) = (run p a).bind fun q => run q b := by
  induction a generalizing p with
  | nil => rfl
  | cons c a ih =>
    show (st p c).bind _ = ((st p c).bind _).bind _
    cases st p c with
    | none => rfl
    | some q => exact ih q
theorem st_dig {p : Nat} (hp : (48 ≤ p ∧ p ≤ 57) ∨ p = 1000) {c : Nat} (hc : 48 ≤ c ∧ c ≤ 57) : st p c = some c := by
  unfold st
  rcases hp with hp | hp
  · rw [if_neg (by omega), if_neg (by omega), if_neg (by omega), if_neg (by omega), if_pos hp, if_pos (.inl hc)]
  · subst hp
    rw [if_neg (by omega), if_neg (by omega), if_neg (by omega), if_neg (by omega), if_neg (by omega), if_pos rfl, if_pos hc]
/-- behind the figures of a number from 1 on -/
theorem run_dig (p : Nat) (hp : p = 43 ∨ p = 91 ∨ p = 42) (n : Nat) (hn : 1 ≤ n) : ∃ q, run p (dig n) = some q ∧ ((48 ≤ q ∧ q ≤ 57) ∨ (q = 1000 ∧ p = 42 ∧ n = 1)) := by
  induction n using Nat.strongRecOn with
  | _ n ih =>
    by_cases h : n < 10
    · rw [dig_lt h]
      by_cases h42 : p = 42
      · subst h42
        by_cases h1 : n = 1
        · subst h1
          exact ⟨1000, rfl, .inr ⟨rfl, rfl, rfl⟩⟩
        · refine ⟨48 + n, ?_, .inl ⟨by omega, by omega⟩⟩
          show (st 42 (48 + n)).bind (fun q => some q) = _
          unfold st
          rw [if_neg (by omega), if_neg (by omega), if_neg (by omega), if_pos rfl, if_neg (by omega), if_pos (by omega)]
          rfl
      · refine ⟨48 + n, ?_, .inl ⟨by omega, by omega⟩⟩
        show (st p (48 + n)).bind (fun q => some q) = _
        unfold st
        rw [if_pos (by omega), if_pos (by omega)]
        rfl
    · obtain ⟨q, hq, hc⟩ := ih (n / 10) (by omega) (by omega)
      rw [dig_step (by omega), run_app, hq]
      refine ⟨48 + n % 10, ?_, .inl ⟨by omega, by omega⟩⟩
      show (st q (48 + n % 10)).bind (fun q => some q) = _
      rw [st_dig (by omega) (by omega)]
      rfl
theorem st_end {q : Nat} (hq : q = 43 ∨ q = 93) {p : Nat} (hp : (48 ≤ p ∧ p ≤ 57) ∨ p = 122 ∨ p = 93) : st p q = some q := by
  unfold st
  rcases hp with hp | hp | hp
  · rw [if_neg (by omega), if_neg (by omega), if_neg (by omega), if_neg (by omega), if_pos hp, if_pos (by omega)]
  · subst hp
    rw [if_neg (by omega), if_pos rfl, if_pos (by omega)]
  · subst hp
    rw [if_neg (by omega), if_neg (by omega), if_pos rfl, if_pos (by omega)]
theorem run_many {p : Nat} (hp : p = 122 ∨ p = 93) {m : Int} (hm : 1 ≤ m) : ∃ s, run p (if m = 1 then [] else 42 :: dig m.toNat) = some s ∧ ((48 ≤ s ∧ s ≤ 57) ∨ s = 122 ∨ s = 93) := by
  by_cases h : m = 1
  · rw [if_pos h]
    exact ⟨p, rfl, .inr hp⟩
  · rw [if_neg h]
    obtain ⟨s, hs, c⟩ := run_dig 42 (by omega) m.toNat (by omega)
    refine ⟨s, ?_, .inl (by omega)⟩
    have e : st p 42 = some 42 := by
      rcases hp with rfl | rfl <;> rfl
    show (st p 42).bind (fun q => run q (dig m.toNat)) = some s
    rw [e]
    exact hs
theorem run_shows : ∀ (l : Lad) (p : Nat), l ≠ .nil → g1 l → (p = 43 ∨ p = 91) → ∃ s, run p (shows l) = some s ∧ ((48 ≤ s ∧ s ≤ 57) ∨ s = 122 ∨ s = 93)
  | .nil, _, h, _, _ => absurd rfl h
  | .cons e m r, p, _, ⟨ge, hm, gr⟩, hp => by
    have pair : ∃ s, run p (showPair e (shows e) m) = some s ∧ ((48 ≤ s ∧ s ≤ 57) ∨ s = 122 ∨ s = 93) := by
      unfold showPair
      by_cases he : e = .nil
      · rw [if_pos he]
        obtain ⟨s, hs, c⟩ := run_dig p (by omega) m.toNat (by omega)
        exact ⟨s, hs, .inl (by omega)⟩
      · rw [if_neg he]
        have e1 : st p 122 = some 122 := by
          rcases hp with rfl | rfl <;> rfl
        show ∃ s, (st p 122).bind (fun q => run q _) = some s ∧ _
        rw [e1]
        show ∃ s, run 122 _ = some s ∧ _
        rw [run_app]
        by_cases ho : e = one
        · rw [if_pos ho]
          exact run_many (.inl rfl) hm
        · rw [if_neg ho]
          obtain ⟨s, hs, c⟩ := run_shows e 91 he ge (.inr rfl)
          have e2 : run 122 (91 :: (shows e ++ [93])) = some 93 := by
            show run 91 (shows e ++ [93]) = _
            rw [run_app, hs]
            show (st s 93).bind (fun q => some q) = _
            rw [st_end (.inr rfl) c]
            rfl
          rw [e2]
          exact run_many (.inr rfl) hm
    obtain ⟨s, hs, c⟩ := pair
    unfold shows
    rw [run_app, hs]
    by_cases hr : r = .nil
    · rw [if_pos hr]
      exact ⟨s, rfl, c⟩
    · rw [if_neg hr]
      obtain ⟨s', hs', c'⟩ := run_shows r 43 hr gr (.inl rfl)
      refine ⟨s', ?_, c'⟩
      show (st s 43).bind (fun q => run q (shows r)) = _
      rw [st_end (.inl rfl) c]
      exact hs'
theorem run_sh {l : Lad} (g : g1 l) (h : sh l ≠ [48]) : run 43 (sh l ++ [43]) = some 43 := by
  by_cases hn : l = .nil
  · subst hn; exact absurd rfl h
  · obtain ⟨s, hs, c⟩ := run_shows l 43 hn g (.inl rfl)
    rw [sh_shows hn, run_app, hs]
    show (st s 43).bind (fun q => some q) = _
    rw [st_end (.inl rfl) c]
    rfl
theorem refused {t : List Nat} (h1 : t ≠ [48]) (h2 : run 43 (t ++ [43]) ≠ some 43) : rd t = none := by
  cases h : rd t with
  | none => rfl
  | some l =>
    obtain ⟨e, o, _⟩ := rd_some h
    subst e
    exact absurd (run_sh (g1_ok o) h1) h2
theorem sh_inj {l k : Lad} (hl : g1 l) (hk : g1 k) (e : sh l = sh k) : l = k := by
  have z : ∀ l : Lad, g1 l → l ≠ .nil → sh l ≠ [48] := fun l g hn e => by
    obtain ⟨s, hs, _⟩ := run_shows l 43 hn g (.inl rfl)
    rw [sh_shows hn] at e
    rw [e] at hs
    cases hs
  by_cases nl : l = .nil
  · by_cases nk : k = .nil
    · rw [nl, nk]
    · subst nl
      exact absurd e.symm (z k hk nk)
  · by_cases nk : k = .nil
    · subst nk
      exact absurd e (z l hl nl)
    · rw [sh_shows nl, sh_shows nk] at e
      exact shows_inj hl hk nl nk e
theorem refused_of {l : Lad} (g : g1 l) (h : ¬ (l.ok = true ∧ l.parts ≤ 60 ∧ l.deep ≤ 12 ∧ gd 60 l)) : rd (sh l) = none := by
  cases q : rd (sh l) with
  | none => rfl
  | some k =>
    obtain ⟨e, o, p, d, gk⟩ := rd_some q
    have := sh_inj (g1_ok o) g e
    subst this
    exact absurd ⟨o, p, d, gk⟩ h
theorem len_sh {w : Nat} (hw : 1 ≤ w) : ∀ l : Lad, gd w l → (shows l).length ≤ (w + 5) * l.parts
  | .nil, _ => Nat.le_refl _
  | .cons e m r, ⟨ge, ⟨h1, h2⟩, gr⟩ => by
    have ie := len_sh hw e ge
    have ir := len_sh hw r gr
    have hd : (dig m.toNat).length ≤ w := by
      refine dig_len ?_ hw
      have : ((m.toNat : Nat) : Int) < ((10 ^ w : Nat) : Int) := by
        rw [Int.toNat_of_nonneg (by omega)]
        simpa using h2
      omega
    have hp : (showPair e (shows e) m).length ≤ w + 4 + (shows e).length := by
      unfold showPair
      split
      · omega
      · simp only [List.length_cons, List.length_append]
        have a : (if e = one then [] else 91 :: (shows e ++ [93])).length ≤ 2 + (shows e).length := by
          split
          · simp
          · simp; omega
        have b : (if m = 1 then [] else 42 :: dig m.toNat).length ≤ 1 + w := by
          split
          · simp
          · simp; omega
        omega
    have hr : (if r = .nil then [] else 43 :: shows r).length ≤ 1 + (shows r).length := by
      split
      · simp
      · simp; omega
    unfold shows parts
    rw [List.length_append]
    have e1 : (w + 5) * (1 + e.parts + r.parts) = (w + 5) + (w + 5) * e.parts + (w + 5) * r.parts := by
      rw [Nat.mul_add, Nat.mul_add, Nat.mul_one]
    omega
end K11
/-! Md -/
namespace K11
open Lad
/-! ### the order -/
theorem lt_irr : ∀ a : Lad, lt a a = false
  | .nil => rfl
  | .cons e m r => by
    unfold lt
    simp only [ne_eq, not_true_eq_false, if_false]
    exact lt_irr r
theorem lt_asymm : ∀ a b : Lad, lt a b = true → lt b a = false
  | .nil, .nil, _ => rfl
  | .nil, .cons _ _ _, _ => rfl
  | .cons _ _ _, .nil, h => by cases h
  | .cons e m r, .cons e' m' r', h => by
    unfold lt at h ⊢
    by_cases he : e = e'
    · subst he
      simp only [ne_eq, not_true_eq_false, if_false] at h ⊢
      by_cases hm : m = m'
      · subst hm
        simp only [not_true_eq_false, if_false] at h ⊢
        exact lt_asymm r r' h
      · rw [if_pos hm] at h
        rw [if_pos (fun q => hm q.symm)]
        simp at h ⊢
        omega
    · rw [if_pos he] at h
      rw [if_pos (fun q => he q.symm)]
      exact lt_asymm e e' h
theorem lt_total : ∀ a b : Lad, a ≠ b → lt a b = false → lt b a = true
  | .nil, .nil, h, _ => absurd rfl h
  | .nil, .cons _ _ _, _, h => by cases h
  | .cons _ _ _, .nil, _, _ => rfl
  | .cons e m r, .cons e' m' r', hn, h => by
    unfold lt at h ⊢
    by_cases he : e = e'
    · subst he
      simp only [ne_eq, not_true_eq_false, if_false] at h ⊢
      by_cases hm : m = m'
      · subst hm
        simp only [not_true_eq_false, if_false] at h ⊢
        exact lt_total r r' (fun q => hn (by rw [q])) h
      · rw [if_pos hm] at h
        rw [if_pos (fun q => hm q.symm)]
        simp at h ⊢
        omega
    · rw [if_pos he] at h
      rw [if_pos (fun q => he q.symm)]
      exact lt_total e e' he h
theorem lt_trans : ∀ a b c : Lad, lt a b = true → lt b c = true → lt a c = true
  | .nil, .nil, _, h, _ => by cases h
  | .nil, .cons _ _ _, .nil, _, h => by cases h
  | .nil, .cons _ _ _, .cons _ _ _, _, _ => rfl
  | .cons _ _ _, .nil, _, h, _ => by cases h
  | .cons _ _ _, .cons _ _ _, .nil, _, h => by cases h
  | .cons e m r, .cons e' m' r', .cons e2 m2 r2, h, h' => by
    unfold lt at h h' ⊢
    by_cases h1 : e = e'
    · subst h1
      simp only [ne_eq, not_true_eq_false, if_false] at h
      by_cases h2 : e = e2
      · subst h2
        simp only [ne_eq, not_true_eq_false, if_false] at h' ⊢
        by_cases k1 : m = m'
        · subst k1
          simp only [not_true_eq_false, if_false] at h
          by_cases k2 : m = m2
          · subst k2
            simp only [not_true_eq_false, if_false] at h' ⊢
            exact lt_trans r r' r2 h h'
          · rw [if_pos k2] at h' ⊢
            exact h'
        · rw [if_pos k1] at h
          by_cases k2 : m' = m2
          · subst k2
            rw [if_pos k1]
            exact h
          · rw [if_pos k2] at h'
            simp at h h'
            rw [if_pos (by omega)]
            simp
            omega
      · rw [if_pos h2] at h' ⊢
        exact h'
    · rw [if_pos h1] at h
      by_cases h2 : e' = e2
      · subst h2
        rw [if_pos h1]
        exact h
      · rw [if_pos h2] at h'
        have h3 : e ≠ e2 := fun q => by
          subst q
          rw [lt_asymm _ _ h] at h'
          cases h'
        rw [if_pos h3]
        exact lt_trans e e' e2 h h'

/-! ### rows -/
abbrev Row := Lad × Int
def ofRows : List Row → Lad
  | [] => .nil
  | p :: l => .cons p.1 p.2 (ofRows l)
def toRows : Lad → List Row
  | .nil => []
  | .cons e m r => (e, m) :: toRows r
theorem of_to : ∀ l, ofRows (toRows l) = l
  | .nil => rfl
  | .cons e m r => by show Lad.cons e m (ofRows (toRows r)) = _; rw [of_to r]
theorem to_of : ∀ l, toRows (ofRows l) = l
  | [] => rfl
  | p :: l => by show (p.1, p.2) :: toRows (ofRows l) = _; rw [to_of l]
def partsR (l : List Row) : Nat := (l.map fun p => 1 + p.1.parts).sum
theorem parts_of : ∀ l, (ofRows l).parts = partsR l
  | [] => rfl
  | p :: l => by
    show 1 + p.1.parts + (ofRows l).parts = ((p :: l).map fun p => 1 + p.1.parts).sum
    rw [parts_of l, List.map_cons, List.sum_cons]
    rfl
theorem deep_of {n : Nat} : ∀ l : List Row, (∀ p ∈ l, 1 + p.1.deep ≤ n) → (ofRows l).deep ≤ n
  | [], _ => Nat.zero_le _
  | p :: l, h => Nat.max_le.mpr ⟨h p List.mem_cons_self, deep_of l fun q hq => h q (List.mem_cons_of_mem _ hq)⟩
theorem gd_rows {w : Nat} : ∀ l : List Row, (∀ p ∈ l, gd w p.1 ∧ 1 ≤ p.2 ∧ p.2 < 10 ^ w) → gd w (ofRows l)
  | [], _ => trivial
  | p :: l, h => ⟨(h p List.mem_cons_self).1, (h p List.mem_cons_self).2, gd_rows l fun q hq => h q (List.mem_cons_of_mem _ hq)⟩
theorem ok_rows : ∀ l : List Row, l.Pairwise (fun a b => lt b.1 a.1 = true) → (∀ p ∈ l, p.1.ok = true ∧ 1 ≤ p.2) → (ofRows l).ok = true
  | [], _, _ => rfl
  | p :: l, hp, h => by
    have h1 := h p List.mem_cons_self
    rw [List.pairwise_cons] at hp
    have ih := ok_rows l hp.2 fun q hq => h q (List.mem_cons_of_mem _ hq)
    show ((p.1.ok && decide (1 ≤ p.2)) && _ && (ofRows l).ok) = true
    rw [ih, h1.1, decide_eq_true h1.2]
    cases l with
    | nil => rfl
    | cons q l =>
      have := hp.1 q List.mem_cons_self
      show (true && true && lt q.1 p.1 && true) = true
      rw [this]
      rfl
/-- as Python sorts pairs -/
def rowLt (a b : Row) : Bool := if a.1 = b.1 then decide (a.2 < b.2) else lt a.1 b.1
def rowLe (a b : Row) : Bool := !rowLt b a
theorem rowLe_total (a b : Row) : (rowLe a b || rowLe b a) = true := by
  unfold rowLe rowLt
  by_cases h : a.1 = b.1
  · rw [if_pos h, if_pos h.symm]
    simp
    omega
  · rw [if_neg h, if_neg (fun q => h q.symm)]
    cases h1 : lt a.1 b.1 with
    | false => simp
    | true => rw [lt_asymm _ _ h1]; simp
theorem rowLt_trans {a b c : Row} (h : rowLt a b = true) (h' : rowLt b c = true) : rowLt a c = true := by
  unfold rowLt at *
  by_cases h1 : a.1 = b.1
  · rw [if_pos h1] at h
    by_cases h2 : b.1 = c.1
    · rw [if_pos h2] at h'
      rw [if_pos (h1.trans h2)]
      simp at *
      omega
    · rw [if_neg h2] at h'
      rw [if_neg (by rw [h1]; exact h2), h1]
      exact h'
  · rw [if_neg h1] at h
    by_cases h2 : b.1 = c.1
    · rw [if_neg (by rw [← h2]; exact h1), ← h2]
      exact h
    · rw [if_neg h2] at h'
      have h3 : a.1 ≠ c.1 := fun q => by
        rw [q] at h
        rw [lt_asymm _ _ h] at h'
        cases h'
      rw [if_neg h3]
      exact lt_trans _ _ _ h h'
theorem rowLt_conn {a b : Row} (hn : a ≠ b) (h : rowLt a b = false) : rowLt b a = true := by
  unfold rowLt at *
  by_cases h1 : a.1 = b.1
  · rw [if_pos h1] at h
    rw [if_pos h1.symm]
    have : a.2 ≠ b.2 := fun q => hn (by cases a; cases b; simp_all)
    simp at *
    omega
  · rw [if_neg h1] at h
    rw [if_neg (fun q => h1 q.symm)]
    exact lt_total _ _ h1 h
theorem rowLt_asymm {a b : Row} (h : rowLt a b = true) : rowLt b a = false := by
  cases q : rowLt b a with
  | false => rfl
  | true =>
    have := rowLt_trans h q
    unfold rowLt at this
    rw [if_pos rfl] at this
    simp at this
theorem rowLe_trans (a b c : Row) (h : rowLe a b = true) (h' : rowLe b c = true) : rowLe a c = true := by
  unfold rowLe at *
  simp only [Bool.not_eq_true'] at *
  by_cases e1 : a = b
  · subst e1; exact h'
  · by_cases e2 : b = c
    · subst e2; exact h
    · have h1 := rowLt_conn (fun q => e1 q.symm) h
      have h2 := rowLt_conn (fun q => e2 q.symm) h'
      exact rowLt_asymm (rowLt_trans h1 h2)
theorem fall_of {l : List Row} (h : l.Pairwise (fun a b => rowLe a b = true)) (hn : (l.map Prod.fst).Nodup) : l.reverse.Pairwise (fun a b => lt b.1 a.1 = true) := by
  rw [List.pairwise_reverse]
  have hn' : l.Pairwise (fun a b => a.1 ≠ b.1) := List.pairwise_map.mp hn
  refine (h.and hn').imp fun {a b} q => ?_
  obtain ⟨h1, h2⟩ := q
  unfold rowLe rowLt at h1
  rw [if_neg (fun q => h2 q.symm)] at h1
  simp only [Bool.not_eq_true'] at h1
  exact lt_total _ _ (fun q => h2 q.symm) h1
/-- the rows sorted, from behind -/
def sorted (l : List Row) : Lad := ofRows (l.mergeSort rowLe).reverse
theorem sorted_ok {n w : Nat} {l : List Row} (hn : (l.map Prod.fst).Nodup) (h : ∀ p ∈ l, p.1.ok = true ∧ 1 + p.1.deep ≤ n ∧ gd w p.1 ∧ 1 ≤ p.2 ∧ p.2 < 10 ^ w) :
    (sorted l).ok = true ∧ (sorted l).deep ≤ n ∧ gd w (sorted l) ∧ (sorted l).parts = partsR l := by
  have hp : (l.mergeSort rowLe).Perm l := List.mergeSort_perm l rowLe
  have hs : (l.mergeSort rowLe).Pairwise (fun a b => rowLe a b = true) := List.pairwise_mergeSort rowLe_trans rowLe_total l
  have hm : ∀ p, p ∈ (l.mergeSort rowLe).reverse → p ∈ l := fun p q => hp.mem_iff.mp (List.mem_reverse.mp q)
  refine ⟨ok_rows _ (fall_of hs ((hp.map Prod.fst).nodup_iff.mpr hn)) fun p q => ⟨(h p (hm p q)).1, (h p (hm p q)).2.2.2.1⟩, deep_of _ fun p q => (h p (hm p q)).2.1, gd_rows _ fun p q => (h p (hm p q)).2.2, ?_⟩
  unfold sorted
  rw [parts_of]
  unfold partsR
  have e : ((l.mergeSort rowLe).reverse.map fun p : Row => 1 + p.1.parts).Perm (l.map fun p => 1 + p.1.parts) := ((List.reverse_perm _).trans hp).map _
  exact e.sum_nat

/-! ### bent texts -/
def last : Lad → Lad
  | .nil => .nil
  | .cons e m .nil => .cons e m .nil
  | .cons _ _ r => last r
def rev : Lad → Lad
  | .nil => .nil
  | .cons e m r => app (rev r) (.cons e m .nil)
theorem app_assoc : ∀ a b c : Lad, app (app a b) c = app a (app b c)
  | .nil, _, _ => rfl
  | .cons e m r, b, c => by show Lad.cons e m (app (app r b) c) = Lad.cons e m (app r (app b c)); rw [app_assoc r b c]
theorem app_nil : ∀ a : Lad, app a .nil = a
  | .nil => rfl
  | .cons e m r => by show Lad.cons e m (app r .nil) = _; rw [app_nil r]
theorem ok_tail {e : Lad} {m : Int} {r : Lad} (h : (Lad.cons e m r).ok = true) : r.ok = true := by
  unfold ok at h
  simp only [Bool.and_eq_true] at h
  exact h.2
theorem ok_next {e e' : Lad} {m m' : Int} {r : Lad} (h : (Lad.cons e m (.cons e' m' r)).ok = true) : lt e' e = true := by
  rw [ok] at h
  simp only [Bool.and_eq_true] at h
  exact h.1.2
theorem dup_no : ∀ l : Lad, l ≠ .nil → (app l (last l)).ok = false
  | .nil, h => absurd rfl h
  | .cons e m .nil, _ => by
    cases q : (app (.cons e m .nil) (last (.cons e m .nil))).ok with
    | false => rfl
    | true =>
      have := ok_next (show (Lad.cons e m (.cons e m .nil)).ok = true from q)
      rw [lt_irr] at this
      cases this
  | .cons e m (.cons e' m' r), _ => by
    have ih := dup_no (.cons e' m' r) (fun q => nomatch q)
    cases q : (app (.cons e m (.cons e' m' r)) (last (.cons e m (.cons e' m' r)))).ok with
    | false => rfl
    | true =>
      have q' : (Lad.cons e m (app (.cons e' m' r) (last (.cons e' m' r)))).ok = true := q
      rw [ok_tail q'] at ih
      cases ih
theorem ok_mid : ∀ (a : Lad) {e e' r : Lad} {m m' : Int}, (app a (.cons e m (.cons e' m' r))).ok = true → lt e' e = true
  | .nil, _, _, _, _, _, h => ok_next h
  | .cons _ _ a, _, _, _, _, _, h => ok_mid a (ok_tail (show (Lad.cons _ _ (app a _)).ok = true from h))
theorem rev_no {e e' r : Lad} {m m' : Int} (h : (Lad.cons e m (.cons e' m' r)).ok = true) : (rev (.cons e m (.cons e' m' r))).ok = false := by
  cases q : (rev (.cons e m (.cons e' m' r))).ok with
  | false => rfl
  | true =>
    have q' : (app (app (rev r) (.cons e' m' .nil)) (.cons e m .nil)).ok = true := q
    rw [app_assoc] at q'
    have := ok_mid (rev r) (show (app (rev r) (.cons e' m' (.cons e m .nil))).ok = true from q')
    rw [lt_asymm _ _ (ok_next h)] at this
    cases this
theorem gd_app {w : Nat} : ∀ {a b : Lad}, gd w a → gd w b → gd w (app a b)
  | .nil, _, _, h => h
  | .cons _ _ _, _, ⟨x, y, z⟩, h => ⟨x, y, gd_app z h⟩
theorem gd_last {w : Nat} : ∀ {a : Lad}, gd w a → gd w (last a)
  | .nil, _ => trivial
  | .cons _ _ .nil, h => h
  | .cons _ _ (.cons e m r), ⟨_, _, z⟩ => gd_last (a := .cons e m r) z
theorem gd_rev {w : Nat} : ∀ {a : Lad}, gd w a → gd w (rev a)
  | .nil, _ => trivial
  | .cons _ _ _, ⟨x, y, z⟩ => gd_app (gd_rev z) ⟨x, y, trivial⟩
theorem sh_pos (l : Lad) : sh l ≠ [] := by
  unfold sh
  split
  · simp
  · rename_i h; exact shows_pos h
theorem len_pos (l : Lad) : 1 ≤ (sh l).length := List.length_pos_iff.mpr (sh_pos l)
theorem ne48 {t : List Nat} (h : 2 ≤ t.length) : t ≠ [48] := fun e => by
  rw [e] at h
  simp at h
/-- what the bent texts are -/
theorem bent_plus (l : Lad) : rd (sh l ++ [43]) = none := refused (ne48 (by have := len_pos l; simp; omega)) (by
  rw [List.append_assoc, run_app]
  cases h : run 43 (sh l) with
  | none => simp
  | some q =>
    show (st q 43).bind (fun q => (st q 43).bind fun q => some q) ≠ _
    cases h' : st q 43 with
    | none => simp
    | some q' =>
      have e : q' = 43 := by
        unfold st at h'
        repeat' split at h'
        all_goals first | (cases h'; done) | (injection h' with h'; exact h'.symm) | (injection h' with h'; omega)
      subst e
      simp [st])
theorem bent_head {c : Nat} (hc : st 43 c = none) (t : List Nat) (ht : t ≠ []) : rd (c :: t) = none := refused (ne48 (by cases t with | nil => exact absurd rfl ht | cons _ _ => simp)) (by
  show (st 43 c).bind _ ≠ _
  rw [hc]
  simp)
/-- a text that ends so -/
theorem bent_end {b : List Nat} (hb : ∀ q, run q (b ++ [43]) ≠ some 43) (a : List Nat) (h2 : 2 ≤ b.length) : rd (a ++ b) = none := refused (ne48 (by simp; omega)) (by
  rw [List.append_assoc, run_app]
  cases h : run 43 a with
  | none => simp
  | some q => exact hb q)
theorem st_42 {q r : Nat} (h : st q 42 = some r) : r = 42 := by
  unfold st at h
  repeat' split at h
  all_goals first | (cases h; done) | (injection h with h; exact h.symm) | (injection h with h; omega)
theorem st_43 {q r : Nat} (h : st q 43 = some r) : r = 43 := by
  unfold st at h
  repeat' split at h
  all_goals first | (cases h; done) | (injection h with h; exact h.symm) | (injection h with h; omega)
theorem end_star1 (q : Nat) : run q ([42, 49] ++ [43]) ≠ some 43 := by
  show (st q 42).bind (fun r => run r [49, 43]) ≠ _
  cases h : st q 42 with
  | none => simp
  | some r =>
    rw [st_42 h]
    decide
theorem end_plus0 (q : Nat) : run q ([43, 48] ++ [43]) ≠ some 43 := by
  show (st q 43).bind (fun r => run r [48, 43]) ≠ _
  cases h : st q 43 with
  | none => simp
  | some r =>
    rw [st_43 h]
    decide
theorem end_plusZ (q : Nat) : run q ([43, 90] ++ [43]) ≠ some 43 := by
  show (st q 43).bind (fun r => run r [90, 43]) ≠ _
  cases h : st q 43 with
  | none => simp
  | some r =>
    rw [st_43 h]
    decide
theorem bent_blank (l : Lad) : rd (sh l ++ [32]) = none := refused (ne48 (by have := len_pos l; simp; omega)) (by
  rw [List.append_assoc, run_app]
  cases h : run 43 (sh l) with
  | none => simp
  | some q =>
    show (st q 32).bind _ ≠ _
    have e : st q 32 = none := by
      unfold st
      repeat' split
      all_goals first | rfl | omega
    rw [e]
    simp)
theorem bent_z {l : Lad} (g : g1 l) : rd (sh l ++ [122]) = none := refused (ne48 (by have := len_pos l; simp; omega)) (by
  rw [List.append_assoc, run_app]
  by_cases hn : l = .nil
  · subst hn; decide
  · obtain ⟨s, hs, c⟩ := run_shows l 43 hn g (.inl rfl)
    rw [sh_shows hn, hs]
    show (st s 122).bind _ ≠ _
    have e : st s 122 = none := by
      unfold st
      rw [if_neg (by omega)]
      repeat' split
      all_goals first | rfl | omega
    rw [e]
    simp)
theorem bent_close {l : Lad} (g : gd 60 l) (hd : l.deep ≤ 12) : rd (sh l ++ [93]) = none := by
  by_cases hn : l = .nil
  · subst hn; decide
  · have := lad_shows (w := 60) (d := 12) (r := [93]) (by decide) hn g hd (stop_93 [])
    unfold rd due
    rw [sh_shows hn, this]
    rw [if_neg (ne48 (by have := len_pos l; rw [sh_shows hn] at this; simp; omega))]
theorem bent_dup {l : Lad} (g : gd 60 l) (hn : l ≠ .nil) : rd (sh (app l (last l))) = none :=
  refused_of (g1_of (gd_app g (gd_last g))) fun q => by
    rw [dup_no l hn] at q
    exact absurd q.1 (by decide)
theorem bent_rev {e e' r : Lad} {m m' : Int} (g : gd 60 (.cons e m (.cons e' m' r))) (h : (Lad.cons e m (.cons e' m' r)).ok = true) : rd (sh (rev (.cons e m (.cons e' m' r)))) = none :=
  refused_of (g1_of (gd_rev g)) fun q => by
    rw [rev_no h] at q
    exact absurd q.1 (by decide)
end K11
/-! Me -/
namespace K11
open Lad
def flag (p : Row) : Bool := p.1.ok && decide (1 ≤ p.2)
def ex (l : Lad) (j : Nat) : Lad := ((toRows l).getD j (.nil, 0)).1
def flags (l : Lad) : List Bool := (toRows l).map flag
def steps (l : Lad) : List Bool := (List.range (l.len - 1)).map fun j => lt (ex l (j + 1)) (ex l j)
theorem toRows_len : ∀ l : Lad, (toRows l).length = l.len
  | .nil => rfl
  | .cons _ _ r => by show (toRows r).length + 1 = _; rw [toRows_len r]; rfl
theorem steps_cons (e e' r : Lad) (m m' : Int) : steps (.cons e m (.cons e' m' r)) = lt e' e :: steps (.cons e' m' r) := by
  unfold steps
  show (List.range (r.len + 1 + 1 - 1)).map _ = _ :: (List.range (r.len + 1 - 1)).map _
  rw [show r.len + 1 + 1 - 1 = r.len + 1 from rfl, show r.len + 1 - 1 = r.len from rfl, List.range_succ_eq_map, List.map_cons, List.map_map]
  rfl
theorem ok_eq : ∀ l : Lad, l.ok = ((flags l).all id && (steps l).all id)
  | .nil => rfl
  | .cons e m .nil => by
    rw [ok]
    show _ = (((e.ok && decide (1 ≤ m)) && true) && true)
    simp [ok]
  | .cons e m (.cons e' m' r) => by
    have ih := ok_eq (.cons e' m' r)
    rw [ok, ih, steps_cons]
    show ((e.ok && decide (1 ≤ m)) && lt e' e && _) = (((e.ok && decide (1 ≤ m)) && (flags (.cons e' m' r)).all id) && (lt e' e && _))
    cases (e.ok && decide (1 ≤ m)) <;> cases lt e' e <;> cases (flags (.cons e' m' r)).all id <;> simp
theorem row_at : ∀ {l : Lad} {i : Nat} {e : Lad} {m : Int}, (toRows l)[i]? = some (e, m) → 1 + e.deep ≤ l.deep ∧ 1 + e.parts ≤ l.parts
  | .nil, _, _, _, h => by cases h
  | .cons e0 m0 r, 0, e, m, h => by
    cases h
    exact ⟨Nat.le_max_left _ _, by show _ ≤ 1 + e0.parts + r.parts; omega⟩
  | .cons e0 m0 r, i + 1, e, m, h => by
    have ih := row_at (l := r) (i := i) h
    exact ⟨Nat.le_trans ih.1 (Nat.le_max_right _ _), by show _ ≤ 1 + e0.parts + r.parts; omega⟩
theorem ex_at {l : Lad} {i : Nat} {e : Lad} {m : Int} (h : (toRows l)[i]? = some (e, m)) : ex l i = e := by
  unfold ex
  rw [List.getD_eq_getElem?_getD, h]
  rfl
theorem len_parts : ∀ l : Lad, l.len ≤ l.parts
  | .nil => Nat.le_refl _
  | .cons e m r => by
    have := len_parts r
    show r.len + 1 ≤ 1 + e.parts + r.parts
    omega
theorem row_lt {l : Lad} {i : Nat} (h : i < l.len) : ∃ e m, (toRows l)[i]? = some (e, m) := by
  rw [← toRows_len] at h
  exact ⟨_, _, List.getElem?_eq_getElem h⟩
/-- parts and depth, by rows -/
theorem parts_rows : ∀ l : Lad, l.parts = ((toRows l).map fun p => 1 + p.1.parts).sum
  | .nil => rfl
  | .cons e m r => by
    rw [show toRows (.cons e m r) = (e, m) :: toRows r from rfl, List.map_cons, List.sum_cons, ← parts_rows r]
    rfl
theorem deep_rows : ∀ l : Lad, (∀ p ∈ toRows l, 1 + p.1.deep ≤ l.deep) ∧ (l ≠ .nil → ∃ p ∈ toRows l, 1 + p.1.deep = l.deep)
  | .nil => ⟨fun p h => (nomatch h), fun h => absurd rfl h⟩
  | .cons e m r => by
    obtain ⟨h1, h2⟩ := deep_rows r
    refine ⟨fun p hp => ?_, fun _ => ?_⟩
    · rcases List.mem_cons.mp hp with rfl | hp
      · exact Nat.le_max_left _ _
      · exact Nat.le_trans (h1 p hp) (Nat.le_max_right _ _)
    · by_cases c : r.deep ≤ 1 + e.deep
      · exact ⟨(e, m), List.mem_cons_self, (Nat.max_eq_left c).symm⟩
      · have hn : r ≠ .nil := fun q => by subst q; exact c (Nat.zero_le _)
        obtain ⟨p, hp, he⟩ := h2 hn
        exact ⟨p, List.mem_cons_of_mem _ hp, by rw [he]; exact (Nat.max_eq_right (by omega)).symm⟩
end K11
/-! Mf -/
namespace K11
open Lad
/-! ### what is left is the end of the text -/
theorem pNum_suf {w : Nat} {t : List Nat} {m : Int} {r : List Nat} (h : pNum w t = some (m, r)) : r <:+ t := by
  unfold pNum at h
  split at h
  · cases h
  · have e : t.dropWhile isFig = r := by injection h with h; injection h
    rw [← e]
    exact List.dropWhile_suffix _
def Suf (pl : Rdr) : Prop := ∀ t l r, pl t = some (l, r) → r <:+ t
theorem pExp_suf {pl : Rdr} (F : Suf pl) {t : List Nat} {e : Lad} {r : List Nat} (h : pExp pl t = some (e, r)) : r <:+ t := by
  unfold pExp at h
  split at h
  · rename_i t
    split at h
    · rename_i e' r' hp
      cases h
      exact ((List.suffix_cons 93 _).trans (F _ _ _ hp)).trans (List.suffix_cons 91 t)
    · cases h
  · cases h
    exact List.suffix_refl _
theorem pMany_suf {w : Nat} {t : List Nat} {m : Int} {r : List Nat} (h : pMany w t = some (m, r)) : r <:+ t := by
  unfold pMany at h
  split at h
  · rename_i t
    exact (pNum_suf h).trans (List.suffix_cons 42 t)
  · cases h
    exact List.suffix_refl _
theorem pPair_122 {w : Nat} {pl : Rdr} (t : List Nat) : pPair w pl (122 :: t) = (pExp pl t).bind fun x => (pMany w x.2).map fun y => (x.1, y.1, y.2) := rfl
theorem pPair_z {w : Nat} {pl : Rdr} {t : List Nat} {e : Lad} {m : Int} {r : List Nat} (h : pPair w pl (122 :: t) = some (e, m, r)) : ∃ q, pExp pl t = some (e, q) ∧ pMany w q = some (m, r) := by
  rw [pPair_122] at h
  cases hx : pExp pl t with
  | none => rw [hx] at h; cases h
  | some x =>
    rw [hx] at h
    have h' : (pMany w x.2).map (fun y => (x.1, y.1, y.2)) = some (e, m, r) := h
    cases hy : pMany w x.2 with
    | none => rw [hy] at h'; cases h'
    | some y =>
      rw [hy] at h'
      cases h'
      exact ⟨x.2, rfl, hy⟩
theorem pPair_suf {w : Nat} {pl : Rdr} (F : Suf pl) {t : List Nat} {e : Lad} {m : Int} {r : List Nat} (h : pPair w pl t = some (e, m, r)) : r <:+ t := by
  by_cases h122 : ∃ t', t = 122 :: t'
  · obtain ⟨t', rfl⟩ := h122
    obtain ⟨q, h1, h2⟩ := pPair_z h
    exact ((pMany_suf h2).trans (pExp_suf F h1)).trans (List.suffix_cons 122 t')
  · rw [pPair_num fun r e => h122 ⟨r, e⟩] at h
    cases hy : pNum w t with
    | none => rw [hy] at h; cases h
    | some y =>
      rw [hy] at h
      cases h
      exact pNum_suf hy
theorem pLoop_suf {w : Nat} {pl : Rdr} (F : Suf pl) : ∀ (f : Nat) (t : List Nat) (l : Lad) (r : List Nat), pLoop w pl f t = some (l, r) → r <:+ t
  | 0, _, _, _, h => by cases h
  | f + 1, t, l, r, h => by
    obtain ⟨e, m, q, hp, c⟩ := pLoop_cases h
    have a := pPair_suf F hp
    rcases c with ⟨q', l', rfl, hl, rfl⟩ | ⟨_, rfl, rfl⟩
    · exact ((pLoop_suf F f q' l' r hl).trans (List.suffix_cons 43 q')).trans a
    · exact a
theorem lad_suf (w : Nat) : ∀ d, Suf (pLad w d)
  | 0 => fun _ _ _ h => (nomatch h)
  | d + 1 => fun t l r h => pLoop_suf (lad_suf w d) _ t l r h
/-- where the rest begins -/
theorem suf_drop {t r : List Nat} (h : r <:+ t) : t.drop (t.length - r.length) = r := (List.suffix_iff_eq_drop.mp h).symm
theorem suf_of_drop {t r : List Nat} {a : Nat} (h : r <:+ t.drop a) : r <:+ t := h.trans (List.drop_suffix a t)
theorem drop_cons {t r : List Nat} {a c : Nat} (h : t.drop a = c :: r) : t.drop (a + 1) = r ∧ a + 1 ≤ t.length := by
  have h1 : t.drop (a + 1) = r := by
    rw [← List.drop_drop, h]
    rfl
  refine ⟨h1, ?_⟩
  have : (t.drop a).length = r.length + 1 := by rw [h]; rfl
  rw [List.length_drop] at this
  omega
/-- a longer clock reads the same -/
theorem pLoop_clock {w : Nat} {pl : Rdr} (hw : 1 ≤ w) (F : Fine w pl) : ∀ (f g : Nat) (t : List Nat), t.length < f → t.length < g → pLoop w pl f t = pLoop w pl g t
  | 0, _, _, h, _ => by omega
  | _, 0, _, _, h => by omega
  | f + 1, g + 1, t, hf, hg => by
    cases hp : pPair w pl t with
    | none => rw [pLoop, pLoop, hp]; rfl
    | some x =>
      obtain ⟨e, m, q⟩ := x
      by_cases hq : ∃ q', q = 43 :: q'
      · obtain ⟨q', rfl⟩ := hq
        have := (pPair_fine hw F hp).2.2
        simp only [List.length_cons] at this
        rw [pLoop_more hp, pLoop_more hp, pLoop_clock hw F f g q' (by omega) (by omega)]
      · have hq' : ∀ q', q ≠ 43 :: q' := fun q' e => hq ⟨q', e⟩
        rw [pLoop_one hp hq', pLoop_one hp hq']
theorem pExp_close {pl : Rdr} {t q : List Nat} {l : Lad} (h : pl t = some (l, 93 :: q)) : pExp pl (91 :: t) = some (l, q) := by
  show (match pl t with | some (e, 93 :: r) => some (e, r) | _ => none) = _
  rw [h]
  rfl
theorem pExp_none {pl : Rdr} {t : List Nat} (h : pl t = none) : pExp pl (91 :: t) = none := by
  show (match pl t with | some (e, 93 :: r) => some (e, r) | _ => none) = _
  rw [h]

theorem pExp_open {pl : Rdr} {t r : List Nat} {l : Lad} (h : pl t = some (l, r)) (hr : ¬ ∃ q, r = 93 :: q) : pExp pl (91 :: t) = none := by
  show (match pl t with | some (e, 93 :: r) => some (e, r) | _ => none) = _
  rw [h]
  cases r with
  | nil => rfl
  | cons c q =>
    split
    · rename_i e' r' heq
      cases heq
      exact absurd ⟨_, rfl⟩ hr
    · rfl
theorem pExp_else {pl : Rdr} {t : List Nat} (h : ¬ ∃ r, t = 91 :: r) : pExp pl t = some (one, t) := pExp_one fun r e => h ⟨r, e⟩
theorem pMany_else {w : Nat} {t : List Nat} (h : ¬ ∃ r, t = 42 :: r) : pMany w t = some (1, t) := by
  unfold pMany
  split
  · rename_i r; exact absurd ⟨r, rfl⟩ h
  · rfl
theorem pPair_no1 {w : Nat} {pl : Rdr} {t : List Nat} (h : pExp pl t = none) : pPair w pl (122 :: t) = none := by rw [pPair_122, h]; rfl
theorem pPair_no2 {w : Nat} {pl : Rdr} {t q : List Nat} {e : Lad} (h : pExp pl t = some (e, q)) (h' : pMany w q = none) : pPair w pl (122 :: t) = none := by
  rw [pPair_122, h]
  show (pMany w q).map _ = none
  rw [h']
  rfl
theorem pPair_yes {w : Nat} {pl : Rdr} {t q r : List Nat} {e : Lad} {m : Int} (h : pExp pl t = some (e, q)) (h' : pMany w q = some (m, r)) : pPair w pl (122 :: t) = some (e, m, r) := by
  rw [pPair_122, h]
  show (pMany w q).map _ = _
  rw [h']
  rfl
theorem pPair_n0 {w : Nat} {pl : Rdr} {t : List Nat} (h : ¬ ∃ r, t = 122 :: r) (h' : pNum w t = none) : pPair w pl t = none := by
  rw [pPair_num fun r e => h ⟨r, e⟩, h']
  try rfl
theorem pPair_n1 {w : Nat} {pl : Rdr} {t r : List Nat} {m : Int} (h : ¬ ∃ r, t = 122 :: r) (h' : pNum w t = some (m, r)) : pPair w pl t = some (.nil, m, r) := by
  rw [pPair_num fun r e => h ⟨r, e⟩, h']
  rfl
/-- the pairs from here on -/
def PL (w : Nat) (pl : Rdr) (t : List Nat) : Option (Lad × List Nat) := pLoop w pl (t.length + 1) t
theorem lad_PL (w d : Nat) (t : List Nat) : pLad w (d + 1) t = PL w (pLad w d) t := rfl
theorem PL_no {w : Nat} {pl : Rdr} {t : List Nat} (h : pPair w pl t = none) : PL w pl t = none := by
  unfold PL
  rw [pLoop, h]
  rfl
theorem PL_one {w : Nat} {pl : Rdr} {t r : List Nat} {e : Lad} {m : Int} (h : pPair w pl t = some (e, m, r)) (hr : ¬ ∃ q, r = 43 :: q) : PL w pl t = some (.cons e m .nil, r) := pLoop_one h fun q e => hr ⟨q, e⟩
theorem PL_more {w : Nat} {pl : Rdr} (hw : 1 ≤ w) (F : Fine w pl) {t r : List Nat} {e : Lad} {m : Int} (h : pPair w pl t = some (e, m, 43 :: r)) : PL w pl t = (PL w pl r).map fun y => (.cons e m y.1, y.2) := by
  unfold PL
  have hl := (pPair_fine hw F h).2.2
  simp only [List.length_cons] at hl
  rw [pLoop_more h, pLoop_clock hw F t.length (r.length + 1) r (by omega) (by omega)]
/-- .. behind the pairs l0 -/
def PR (w : Nat) (pl : Rdr) (l0 : Lad) : List Nat → Option (Lad × List Nat)
  | 43 :: q => (PL w pl q).map fun y => (app l0 y.1, y.2)
  | q => some (l0, q)
theorem PR_end {w : Nat} {pl : Rdr} {l0 : Lad} {q : List Nat} (h : ¬ ∃ r, q = 43 :: r) : PR w pl l0 q = some (l0, q) := by
  unfold PR
  split
  · rename_i r; exact absurd ⟨r, rfl⟩ h
  · rfl
theorem PL_PR {w : Nat} {pl : Rdr} (hw : 1 ≤ w) (F : Fine w pl) {t r : List Nat} {e : Lad} {m : Int} (h : pPair w pl t = some (e, m, r)) : PL w pl t = PR w pl (.cons e m .nil) r := by
  by_cases hr : ∃ q, r = 43 :: q
  · obtain ⟨q, rfl⟩ := hr
    exact PL_more hw F h
  · rw [PL_one h hr, PR_end hr]
theorem PR_no {w : Nat} {pl : Rdr} {l0 : Lad} {q : List Nat} (h : pPair w pl q = none) : PR w pl l0 (43 :: q) = none := by
  show (PL w pl q).map _ = none
  rw [PL_no h]
  rfl
theorem PR_step {w : Nat} {pl : Rdr} (hw : 1 ≤ w) (F : Fine w pl) {l0 : Lad} {q r : List Nat} {e : Lad} {m : Int} (h : pPair w pl q = some (e, m, r)) : PR w pl l0 (43 :: q) = PR w pl (app l0 (.cons e m .nil)) r := by
  show (PL w pl q).map _ = _
  rw [PL_PR hw F h]
  by_cases hr : ∃ q, r = 43 :: q
  · obtain ⟨q, rfl⟩ := hr
    show ((PL w pl q).map _).map _ = (PL w pl q).map _
    rw [Option.map_map]
    congr 1
    funext y
    show (app l0 (app (.cons e m .nil) y.1), y.2) = _
    rw [← app_assoc]
  · rw [PR_end hr, PR_end hr]
    rfl
end K11
/-! Mg -/
namespace K11
open Lad
theorem pNum_deep {w : Nat} {pl : Rdr} {k : Nat} (H : ∀ t l r, pl t = some (l, r) → l.deep ≤ k) {t : List Nat} {e : Lad} {m : Int} {r : List Nat} (hk : 1 ≤ k) (h : pPair w pl t = some (e, m, r)) : e.deep ≤ k := by
  by_cases h122 : ∃ t', t = 122 :: t'
  · obtain ⟨t', rfl⟩ := h122
    obtain ⟨q, h1, h2⟩ := pPair_z h
    by_cases h91 : ∃ t2, t' = 91 :: t2
    · obtain ⟨t2, rfl⟩ := h91
      cases hp : pl t2 with
      | none => rw [pExp_none hp] at h1; cases h1
      | some x =>
        obtain ⟨l, r2⟩ := x
        by_cases h93 : ∃ q, r2 = 93 :: q
        · obtain ⟨q2, rfl⟩ := h93
          rw [pExp_close hp] at h1
          cases h1
          exact H _ _ _ hp
        · rw [pExp_open hp h93] at h1
          cases h1
    · rw [pExp_else h91] at h1
      cases h1
      exact hk
  · rw [pPair_num fun r e => h122 ⟨r, e⟩] at h
    cases hy : pNum w t with
    | none => rw [hy] at h; cases h
    | some y => rw [hy] at h; cases h; exact Nat.zero_le _
theorem pLoop_deep {w : Nat} {pl : Rdr} {k : Nat} (H : ∀ t l r, pl t = some (l, r) → l.deep ≤ k) (hk : 1 ≤ k) : ∀ (f : Nat) (t : List Nat) (l : Lad) (r : List Nat), pLoop w pl f t = some (l, r) → l.deep ≤ k + 1
  | 0, _, _, _, h => by cases h
  | f + 1, t, l, r, h => by
    obtain ⟨e, m, q, hp, c⟩ := pLoop_cases h
    have a := pNum_deep H hk hp
    rcases c with ⟨q', l', rfl, hl, rfl⟩ | ⟨_, rfl, rfl⟩
    · have b := pLoop_deep H hk f q' l' r hl
      exact Nat.max_le.mpr ⟨by omega, b⟩
    · exact Nat.max_le.mpr ⟨by omega, Nat.zero_le _⟩
theorem lad_deep {w : Nat} : ∀ (d : Nat) (t : List Nat) (l : Lad) (r : List Nat), pLad w d t = some (l, r) → l.deep ≤ d + 1
  | 0, _, _, _, h => by cases h
  | d + 1, t, l, r, h => pLoop_deep (k := d + 1) (lad_deep d) (by omega) _ t l r h
theorem due_0 (d : Nat) : due d [48] = some .nil := rfl
theorem due_no {d : Nat} {t : List Nat} (h0 : t ≠ [48]) (h : pLad 60 d t = none) : due d t = none := by
  unfold due
  rw [if_neg h0, h]
theorem due_rest {d : Nat} {t r : List Nat} {l : Lad} (h0 : t ≠ [48]) (h : pLad 60 d t = some (l, r)) (hr : r ≠ []) : due d t = none := by
  unfold due
  rw [if_neg h0, h]
  cases r with
  | nil => exact absurd rfl hr
  | cons c r => rfl
theorem due_end {d : Nat} {t : List Nat} {l : Lad} (h0 : t ≠ [48]) (h : pLad 60 d t = some (l, [])) : due d t = if good t l then some l else none := by
  unfold due
  rw [if_neg h0, h]
theorem good_no1 {t : List Nat} {l : Lad} (h : l.ok = false) : good t l = false := by unfold good; rw [h]; rfl
theorem good_no2 {t : List Nat} {l : Lad} (h : sh l ≠ t) : good t l = false := by unfold good; rw [decide_eq_false h, Bool.and_false, Bool.false_and, Bool.false_and]
theorem good_no3 {t : List Nat} {l : Lad} (h : ¬ l.parts ≤ 60) : good t l = false := by unfold good; rw [decide_eq_false h, Bool.and_false, Bool.false_and]
theorem good_no4 {t : List Nat} {l : Lad} (h : ¬ l.deep ≤ 12) : good t l = false := by unfold good; rw [decide_eq_false h, Bool.and_false]
theorem good_yes {t : List Nat} {l : Lad} (h : l.ok = true) (h2 : sh l = t) (h3 : l.parts ≤ 60) (h4 : l.deep ≤ 12) : good t l = true := by unfold good; rw [h, decide_eq_true h2, decide_eq_true h3, decide_eq_true h4]; rfl
theorem due_bad {d : Nat} {t : List Nat} {l : Lad} (h0 : t ≠ [48]) (h : pLad 60 d t = some (l, [])) (hg : good t l = false) : due d t = none := by
  rw [due_end h0 h, hg]
  rfl
theorem due_good {d : Nat} {t : List Nat} {l : Lad} (h0 : t ≠ [48]) (h : pLad 60 d t = some (l, [])) (hg : good t l = true) : due d t = some l := by
  rw [due_end h0 h, hg]
  rfl
end K11
/-! Mh -/
namespace K11
open Lad
theorem parts_app : ∀ a b : Lad, (app a b).parts = a.parts + b.parts
  | .nil, b => (Nat.zero_add _).symm
  | .cons e m r, b => by
    have := parts_app r b
    show 1 + e.parts + (app r b).parts = 1 + e.parts + r.parts + b.parts
    omega
theorem deep_app : ∀ a b : Lad, (app a b).deep = max a.deep b.deep
  | .nil, b => (Nat.max_eq_right (Nat.zero_le _)).symm
  | .cons e m r, b => by
    have := deep_app r b
    show max (1 + e.deep) (app r b).deep = max (max (1 + e.deep) r.deep) b.deep
    omega
theorem parts_last : ∀ a : Lad, (last a).parts ≤ a.parts
  | .nil => Nat.le_refl _
  | .cons _ _ .nil => Nat.le_refl _
  | .cons e m (.cons e' m' r) => by
    have := parts_last (.cons e' m' r)
    show (last (.cons e' m' r)).parts ≤ 1 + e.parts + (Lad.cons e' m' r).parts
    omega
theorem deep_last : ∀ a : Lad, (last a).deep ≤ a.deep
  | .nil => Nat.le_refl _
  | .cons _ _ .nil => Nat.le_refl _
  | .cons e m (.cons e' m' r) => by
    have := deep_last (.cons e' m' r)
    exact Nat.le_trans this (Nat.le_max_right _ _)
theorem parts_rev : ∀ a : Lad, (rev a).parts = a.parts
  | .nil => rfl
  | .cons e m r => by
    have := parts_rev r
    show (app (rev r) (.cons e m .nil)).parts = 1 + e.parts + r.parts
    rw [parts_app, this]
    show r.parts + (1 + e.parts + 0) = _
    omega
theorem deep_rev : ∀ a : Lad, (rev a).deep = a.deep
  | .nil => rfl
  | .cons e m r => by
    have := deep_rev r
    show (app (rev r) (.cons e m .nil)).deep = max (1 + e.deep) r.deep
    rw [deep_app, this]
    show max r.deep (max (1 + e.deep) 0) = _
    omega
/-- the last two bent texts -/
theorem bent_dup2 {l : Lad} (g : gd 60 l) : rd (sh (app l (last l)) ++ (if l = .nil then [43] else [])) = none := by
  by_cases h : l = .nil
  · subst h
    rw [if_pos rfl]
    exact bent_plus .nil
  · rw [if_neg h, List.append_nil]
    exact bent_dup g h
theorem bent_rev2 {l : Lad} (g : gd 60 l) (ho : l.ok = true) (hd : l.deep ≤ 12) : rd (sh (rev l) ++ (if l.len < 2 then [93] else [])) = none := by
  match l, g, ho, hd with
  | .nil, g, _, hd => exact bent_close g hd
  | .cons e m .nil, g, _, hd =>
    rw [if_pos (show (Lad.cons e m .nil).len < 2 from Nat.lt_succ_self _)]
    exact bent_close (l := .cons e m .nil) g hd
  | .cons e m (.cons e' m' r), g, ho, hd =>
    rw [if_neg (by show ¬ r.len + 1 + 1 < 2; omega), List.append_nil]
    exact bent_rev g ho
end K11
/-! Mi -/
namespace K11
open Lad
def PQ (w : Nat) (pl : Rdr) (l0 : Lad) (q : List Nat) : Option (Lad × List Nat) := (PL w pl q).map fun y => (app l0 y.1, y.2)
theorem PQ_start (w : Nat) (pl : Rdr) (t : List Nat) : PL w pl t = PQ w pl .nil t := by
  unfold PQ
  cases PL w pl t with
  | none => rfl
  | some y => rfl
theorem PQ_no {w : Nat} {pl : Rdr} {l0 : Lad} {q : List Nat} (h : pPair w pl q = none) : PQ w pl l0 q = none := by
  unfold PQ
  rw [PL_no h]
  rfl
theorem PQ_end {w : Nat} {pl : Rdr} {l0 : Lad} {q r : List Nat} {e : Lad} {m : Int} (h : pPair w pl q = some (e, m, r)) (hr : ¬ ∃ r', r = 43 :: r') : PQ w pl l0 q = some (app l0 (.cons e m .nil), r) := by
  unfold PQ
  rw [PL_one h hr]
  rfl
theorem app_snoc : ∀ (l0 : Lad) (e : Lad) (m : Int) (y : Lad), app (app l0 (.cons e m .nil)) y = app l0 (.cons e m y)
  | .nil, _, _, _ => rfl
  | .cons a b r, e, m, y => by
    show Lad.cons a b (app (app r (.cons e m .nil)) y) = Lad.cons a b (app r (.cons e m y))
    rw [app_snoc r e m y]
theorem PQ_step {w : Nat} {pl : Rdr} (hw : 1 ≤ w) (F : Fine w pl) {l0 : Lad} {q r : List Nat} {e : Lad} {m : Int} (h : pPair w pl q = some (e, m, 43 :: r)) : PQ w pl l0 q = PQ w pl (app l0 (.cons e m .nil)) r := by
  unfold PQ
  rw [PL_more hw F h]
  cases PL w pl r with
  | none => rfl
  | some y =>
    show some (app l0 (.cons e m y.1), y.2) = some (app (app l0 (.cons e m .nil)) y.1, y.2)
    rw [app_snoc]
end K11
/-! Mj -/
namespace K11
open Lad
/-! ### at the bounds -/
def Chain : Nat → Lad → Prop
  | 0, c => c = one
  | i + 1, c => ∃ e m, c = .cons e m .nil ∧ Chain i e ∧ 1 ≤ m ∧ m ≤ 2
theorem chain_facts : ∀ (i : Nat) (c : Lad), Chain i c → c.ok = true ∧ gd 60 c ∧ c.parts = i + 1 ∧ c.deep = i + 1
  | 0, c, h => by
    rw [show c = one from h]
    exact ⟨rfl, ⟨trivial, ⟨by decide, by decide⟩, trivial⟩, rfl, rfl⟩
  | i + 1, c, h => by
    obtain ⟨e, m, rfl, he, h1, h2⟩ := h
    obtain ⟨a, b, p, d⟩ := chain_facts i e he
    refine ⟨?_, ⟨b, ⟨h1, by omega⟩, trivial⟩, ?_, ?_⟩
    · show ((e.ok && decide (1 ≤ m)) && true && true) = true
      rw [a, decide_eq_true h1]
      rfl
    · show 1 + e.parts + 0 = _
      omega
    · show max (1 + e.deep) 0 = _
      omega
def rowN (m : Int) : Nat → Lad
  | 0 => .nil
  | i + 1 => app (rowN m i) (.cons (.cons .nil (31 - (0 + (i : Int))) .nil) m .nil)
theorem row_gd60 {m : Int} (h1 : 1 ≤ m) (h2 : m ≤ 10) : ∀ i : Nat, i ≤ 30 → gd 60 (rowN m i)
  | 0, _ => trivial
  | i + 1, h => by
    refine gd_app (row_gd60 h1 h2 i (by omega)) ⟨⟨trivial, ⟨by omega, by omega⟩, trivial⟩, ⟨h1, by omega⟩, trivial⟩
theorem row_parts (m : Int) : ∀ i : Nat, (rowN m i).parts = 2 * i
  | 0 => rfl
  | i + 1 => by
    show (app _ _).parts = _
    rw [parts_app, row_parts m i]
    show 2 * i + (1 + (1 + 0 + 0) + 0) = _
    omega
theorem row_deep (m : Int) : ∀ i : Nat, (rowN m i).deep ≤ 2
  | 0 => Nat.zero_le _
  | i + 1 => by
    show (app _ _).deep ≤ _
    rw [deep_app]
    have := row_deep m i
    show max _ (max (1 + max (1 + 0) 0) 0) ≤ 2
    omega
theorem row_ok9 : ∀ v : Fin 9, (rowN (2 + (v.val : Int)) 30).ok = true := by decide +kernel
theorem row_ok {m : Int} (h1 : 2 ≤ m) (h2 : m ≤ 10) : (rowN m 30).ok = true := by
  have := row_ok9 ⟨(m - 2).toNat, by omega⟩
  rw [show (2 + (((⟨(m - 2).toNat, by omega⟩ : Fin 9).val : Nat) : Int)) = m by show 2 + (((m - 2).toNat : Nat) : Int) = m; omega] at this
  exact this
theorem rowN_lt {m : Int} {i : Nat} : rowN m (i + 1) = app (rowN m i) (.cons (.cons .nil (31 - (0 + (i : Int))) .nil) m .nil) := rfl
/-- what is beyond -/
theorem far_deep {c : Lad} (h : Chain 11 c) {m : Int} (h1 : 2 ≤ m) (h2 : m ≤ 10) : gd 61 (.cons c m .nil) ∧ rd (sh (.cons c m .nil)) = none ∧ (Lad.cons c m .nil).deep = 13 ∧ (Lad.cons c m .nil).parts = 13 := by
  obtain ⟨a, b, p, d⟩ := chain_facts 11 c h
  have g : gd 60 (.cons c m .nil) := ⟨b, ⟨by omega, by omega⟩, trivial⟩
  have e : (Lad.cons c m .nil).deep = 13 := by
    show max (1 + c.deep) 0 = _
    omega
  have hr : rd (sh (.cons c m .nil)) = none := refused_of (g1_of g) (fun q => by
    have := q.2.2.1
    omega)
  have g6 : gd 61 (.cons c m .nil) := gd_mono (by decide : 60 ≤ 61) _ g
  refine ⟨g6, hr, e, ?_⟩
  · show 1 + c.parts + 0 = _
    omega
theorem far_parts {R : Lad} (gR : gd 60 R) (pR : R.parts = 60) (dR : R.deep ≤ 2) {m : Int} (h1 : 2 ≤ m) (h2 : m ≤ 10) : gd 61 (app R (.cons .nil m .nil)) ∧ rd (sh (app R (.cons .nil m .nil))) = none ∧ (app R (.cons .nil m .nil)).deep ≤ 2 ∧ (app R (.cons .nil m .nil)).parts = 61 := by
  have g1 : gd 60 (.cons .nil m .nil) := ⟨trivial, ⟨by omega, by omega⟩, trivial⟩
  have g : gd 60 (app R (.cons .nil m .nil)) := gd_app gR g1
  have e : (app R (.cons .nil m .nil)).parts = 61 := by
    rw [parts_app, pR]
    rfl
  have hr : rd (sh (app R (.cons .nil m .nil))) = none := refused_of (g1_of g) (fun q => by
    have := q.2.1
    omega)
  have g6 : gd 61 (app R (.cons .nil m .nil)) := gd_mono (by decide : 60 ≤ 61) _ g
  refine ⟨g6, hr, ?_, e⟩
  rw [deep_app]
  show max _ (max (1 + 0) 0) ≤ 2
  omega
theorem far_great {e : Lad} (g : gd 60 e) {n : Int} (h1 : 10 ^ 60 ≤ n) (h2 : n < 10 ^ 61) : gd 61 (.cons e n .nil) ∧ rd (sh (.cons e n .nil)) = none := by
  have ge : gd 61 e := gd_mono (by decide : 60 ≤ 61) e g
  have g' : gd 61 (.cons e n .nil) := ⟨ge, ⟨by omega, h2⟩, trivial⟩
  have hr : rd (sh (.cons e n .nil)) = none := refused_of (g1_of g') (fun q => by
    have h3 : n < 10 ^ 60 := q.2.2.2.2.1.2
    omega)
  exact ⟨g', hr⟩
end K11
namespace K11
open Lad
theorem chain_top {c : Lad} (h : Chain 11 c) : ∃ e m, c = .cons e m .nil ∧ gd 60 e ∧ e.parts = 11 ∧ e.deep = 11 ∧ e.ok = true := by
  obtain ⟨e, m, hc, he, h1, h2⟩ := h
  have f := chain_facts 10 e he
  exact ⟨e, m, hc, f.2.1, f.2.2.1, f.2.2.2, f.1⟩
theorem row_facts {m : Int} {R : Lad} {i : Nat} (e : R = rowN m i) (hi : i = 30) (h1 : 2 ≤ m) (h2 : m ≤ 10) : R.ok = true ∧ gd 60 R ∧ R.parts = 60 ∧ R.deep ≤ 2 := by
  subst e
  refine ⟨?_, row_gd60 (by omega) h2 i (by omega), ?_, row_deep m i⟩
  · rw [hi]
    exact row_ok h1 h2
  · rw [row_parts, hi]
end K11
/-! Mk -/
namespace K11
open Lad
theorem c91_dig (n : Nat) : (dig n).count 91 = 0 := by
  refine List.count_eq_zero.mpr fun h => ?_
  have := dig_fig n 91 h
  exact absurd this (by decide)
theorem c91_many (m : Int) : (if m = 1 then [] else 42 :: dig m.toNat : List Nat).count 91 = 0 := by
  split
  · rfl
  · rw [List.count_cons_of_ne (by decide), c91_dig]
theorem c91_pair (e : Lad) (s : List Nat) (m : Int) (h : s.count 91 ≤ e.parts) : (showPair e s m).count 91 ≤ 1 + e.parts := by
  unfold showPair
  split
  · rw [c91_dig]
    exact Nat.zero_le _
  · rw [List.count_cons_of_ne (by decide), List.count_append, c91_many]
    split
    · exact Nat.zero_le _
    · rw [List.count_cons_self, List.count_append]
      have : ([93] : List Nat).count 91 = 0 := rfl
      omega
theorem c91_shows : ∀ l : Lad, (shows l).count 91 ≤ l.parts
  | .nil => Nat.zero_le _
  | .cons e m r => by
    have h1 := c91_shows e
    have h2 := c91_shows r
    have h3 := c91_pair e (shows e) m h1
    rw [shows, List.count_append]
    have h4 : (if r = .nil then [] else 43 :: shows r : List Nat).count 91 ≤ r.parts := by
      split
      · exact Nat.zero_le _
      · rw [List.count_cons_of_ne (by decide)]
        exact h2
    show _ ≤ 1 + e.parts + r.parts
    omega
theorem c91_sh (l : Lad) : (sh l).count 91 ≤ l.parts := by
  unfold sh
  split
  · exact Nat.zero_le _
  · exact c91_shows l
end K11
/-! Wa -/
namespace K11
open PySem L2 Lad
/-! ### the text by places -/
def topS (i : Nat) : Stmt := PySem.Challenge.pw_felltimber_k11_whole_ladder_texts.main.body.getD i (.Pass ⟨0, 0, 0, 0⟩)

/-! ### heaps: the tuples stand -/
def Gr (H H' : Hp) : Prop := ∀ a xs, Rd H a (.tup xs) → Rd H' a (.tup xs)
theorem Gr.refl (H : Hp) : Gr H H := fun _ _ h => h
theorem Gr.trans {H H1 H2 : Hp} (a : Gr H H1) (b : Gr H1 H2) : Gr H H2 := fun c xs h => b c xs (a c xs h)
theorem Same.gr {H H' : Hp} (s : Same H H') : Gr H H' := fun a xs h => by
  rcases h with h | ⟨o, h⟩
  · exact .inl (s _ _ h)
  · exact .inr ⟨o, s _ _ h⟩
theorem same_new {H : Hp} {p : Addr} (h : H p = none) (o : HO) : Same H (upd H p o) := fun b u q => by rw [upd_ne (ne_of_none q h)]; exact q
theorem gr_new {H : Hp} {p : Addr} (h : H p = none) (o : HO) : Gr H (upd H p o) := Same.gr (same_new h o)
theorem gr_lst {H : Hp} {p : Addr} {ys : List V} (h : H p = some (.lst ys)) (o : HO) : Gr H (upd H p o) := fun a xs q => by
  rcases q with q | ⟨u, q⟩
  · exact .inl (by rw [upd_ne (ne_of q h (fun z => by cases z))]; exact q)
  · exact .inr ⟨u, by rw [upd_ne (ne_of q h (fun z => by cases z))]; exact q⟩
/-- all but the object at p as it was -/
def But (p : Addr) (H H' : Hp) : Prop := ∀ b o, b ≠ p → H b = some o → H' b = some o
theorem SqT.gr {K : PySem.W.Frag} {H H' : Hp} {a : Addr} {xs : List V} (g : Gr H H') (h : SqT K H a xs) : SqT K H' a xs := by
  rcases h with h | h
  · exact .inl (g a xs h)
  · exact .inr h
theorem SqT.same {K : PySem.W.Frag} {H H' : Hp} {a : Addr} {xs : List V} (s : Same H H') (h : SqT K H a xs) : SqT K H' a xs := SqT.gr (Same.gr s) h
theorem ty_tup {K : PySem.W.Frag} {H : Hp} {a : Addr} {xs : List V} (h : SqT K H a xs) : TyX K H (.ref a) (.type "tuple") := by
  rcases h with (h | ⟨o, h⟩) | ⟨o, its, n, h, c, _⟩
  · exact .base (.tup h)
  · exact .fTuple h
  · exact .kTuple h c

/-! ### a ladder in the heap -/
mutual
def encs : Lad → List PyData
  | .nil => []
  | .cons e m r => .tuple [.tuple (encs e), .int m] :: encs r
end
abbrev enc (l : Lad) : PyData := .tuple (encs l)
/-- the items of a ladder's tuple -/
def LVs (K : PySem.W.Frag) (H : Hp) : List V → Lad → Prop
  | xs, .nil => xs = []
  | xs, .cons e m r => ∃ p a ys zs, xs = .ref p :: zs ∧ SqT K H p [.ref a, .int m] ∧ SqT K H a ys ∧ LVs K H ys e ∧ LVs K H zs r
def LV (K : PySem.W.Frag) (H : Hp) (v : V) (l : Lad) : Prop := ∃ a xs, v = .ref a ∧ SqT K H a xs ∧ LVs K H xs l
/-- a pair -/
def PV (K : PySem.W.Frag) (H : Hp) (v : V) (e : Lad) (m : Int) : Prop := ∃ p ve, v = .ref p ∧ SqT K H p [ve, .int m] ∧ LV K H ve e
section
variable {K : PySem.W.Frag} {H H' : Hp}
theorem LVs.gr (g : Gr H H') : ∀ {l : Lad} {xs : List V}, LVs K H xs l → LVs K H' xs l
  | .nil, _, h => h
  | .cons _ _ _, _, ⟨p, a, ys, zs, e, h1, h2, h3, h4⟩ => ⟨p, a, ys, zs, e, SqT.gr g h1, SqT.gr g h2, LVs.gr g h3, LVs.gr g h4⟩
theorem LV.gr (g : Gr H H') {v : V} {l : Lad} (h : LV K H v l) : LV K H' v l := by
  obtain ⟨a, xs, e, h1, h2⟩ := h
  exact ⟨a, xs, e, SqT.gr g h1, LVs.gr g h2⟩
theorem PV.gr (g : Gr H H') {v : V} {e : Lad} {m : Int} (h : PV K H v e m) : PV K H' v e m := by
  obtain ⟨p, ve, e, h1, h2⟩ := h
  exact ⟨p, ve, e, SqT.gr g h1, LV.gr g h2⟩
theorem LVs.cons {e r : Lad} {m : Int} {v : V} {zs : List V} (h : PV K H v e m) (h' : LVs K H zs r) : LVs K H (v :: zs) (.cons e m r) := by
  obtain ⟨p, ve, rfl, h1, a, ys, rfl, h2, h3⟩ := h
  exact ⟨p, a, ys, zs, rfl, h1, h2, h3, h'⟩
theorem LVs.uncons {e r : Lad} {m : Int} {xs : List V} (h : LVs K H xs (.cons e m r)) : ∃ v zs, xs = v :: zs ∧ PV K H v e m ∧ LVs K H zs r := by
  obtain ⟨p, a, ys, zs, rfl, h1, h2, h3, h4⟩ := h
  exact ⟨_, zs, rfl, ⟨p, _, rfl, h1, a, ys, rfl, h2, h3⟩, h4⟩
theorem LVs.len : ∀ {l : Lad} {xs : List V}, LVs K H xs l → xs.length = l.len
  | .nil, _, h => by rw [show _ = ([] : List V) from h]; rfl
  | .cons _ _ r, _, ⟨_, _, _, zs, e, _, _, _, h⟩ => by rw [e, List.length_cons, LVs.len h]; rfl
theorem LVs.app : ∀ {l k : Lad} {xs ys : List V}, LVs K H xs l → LVs K H ys k → LVs K H (xs ++ ys) (app l k)
  | .nil, _, _, _, h, h' => by rw [show _ = ([] : List V) from h]; exact h'
  | .cons e m r, k, _, ys, h, h' => by
    obtain ⟨v, zs, rfl, p, h2⟩ := h.uncons
    exact LVs.cons p (LVs.app h2 h')
/-- the items by rows -/
theorem LVs.at : ∀ {l : Lad} {xs : List V} {i : Nat} {x : V}, LVs K H xs l → xs[i]? = some x → ∃ e m, (toRows l)[i]? = some (e, m) ∧ PV K H x e m
  | .nil, _, _, _, h, hi => by rw [show _ = ([] : List V) from h] at hi; cases hi
  | .cons e m r, _, 0, _, h, hi => by
    obtain ⟨v, zs, rfl, p, h2⟩ := h.uncons
    cases hi
    exact ⟨e, m, rfl, p⟩
  | .cons e m r, _, i + 1, _, h, hi => by
    obtain ⟨v, zs, rfl, p, h2⟩ := h.uncons
    obtain ⟨e', m', q1, q2⟩ := LVs.at h2 (i := i) (by simpa using hi)
    exact ⟨e', m', q1, q2⟩
/-- as data -/
theorem LVs.dp : ∀ {l : Lad} {xs : List V}, LVs K H xs l → DpAll K H xs (encs l)
  | .nil, _, h => by rw [show _ = ([] : List V) from h]; unfold encs; exact .nil
  | .cons e m r, _, ⟨p, a, ys, zs, q, h1, h2, h3, h4⟩ => by
    rw [q]
    unfold encs
    exact .cons (.tup h1 (.cons (.tup h2 (LVs.dp h3)) (.cons (.int m) .nil))) (LVs.dp h4)
theorem LV.dp {v : V} {l : Lad} (h : LV K H v l) : Dp K H v (enc l) := by
  obtain ⟨a, xs, rfl, h1, h2⟩ := h
  exact .tup h1 h2.dp
theorem LV.nil {p : Addr} (h : SqT K H p []) : LV K H (.ref p) .nil := ⟨p, [], rfl, h, rfl⟩
theorem PV.mk' {p : Addr} {ve : V} {e : Lad} {m : Int} (h : SqT K H p [ve, .int m]) (h' : LV K H ve e) : PV K H (.ref p) e m := ⟨p, ve, rfl, h, h'⟩
end

/-! ### ladders as data: equal, less -/
theorem eqv_enc : ∀ l k : Lad, PyData.eqvAll (encs l) (encs k) = decide (l = k)
  | .nil, .nil => by simp [encs, PyData.eqvAll]
  | .nil, .cons _ _ _ => by simp [encs, PyData.eqvAll]
  | .cons _ _ _, .nil => by simp [encs, PyData.eqvAll]
  | .cons e m r, .cons e' m' r' => by
    have h1 := eqv_enc e e'
    have h2 := eqv_enc r r'
    simp only [encs, PyData.eqvAll, PyData.eqv, h1, h2, Bool.and_true]
    by_cases a : e = e' <;> by_cases b : m = m' <;> by_cases c : r = r' <;> simp [a, b, c]
theorem eqv_lad (l k : Lad) : PyData.eqv (enc l) (enc k) = decide (l = k) := by
  unfold enc
  rw [PyData.eqv, eqv_enc]
theorem alike_enc : ∀ l k : Lad, PySem.W.alikeAll (encs l) (encs k) = true
  | .nil, k => by unfold encs; cases k <;> simp [encs, PySem.W.alikeAll]
  | .cons _ _ _, .nil => by simp [encs, PySem.W.alikeAll]
  | .cons e m r, .cons e' m' r' => by
    have h1 := alike_enc e e'
    have h2 := alike_enc r r'
    simp [encs, PySem.W.alikeAll, PySem.W.alike, h1, h2]
theorem alike_lad (l k : Lad) : PySem.W.alike (enc l) (enc k) = true := by
  show PySem.W.alikeAll _ _ = true
  exact alike_enc l k
theorem lt_cons (e r e' r' : Lad) (m m' : Int) : lt (.cons e m r) (.cons e' m' r') = if e ≠ e' then lt e e' else if m ≠ m' then decide (m < m') else lt r r' := by rw [lt]
theorem lt_enc : ∀ l k : Lad, PySem.W.dataLt (enc l) (enc k) = lt l k
  | .nil, .nil => by rw [PySem.W.dataLt_tuple]; decide
  | .nil, .cons e m r => by
    rw [PySem.W.dataLt_tuple]
    simp only [encs, PySem.W.keyToksAll]
    exact (PySem.W.lex_atom (by simp) _ _).trans (show _ = true by rw [PySem.W.lex_one]; decide)
  | .cons e m r, .nil => by
    rw [PySem.W.dataLt_tuple]
    simp only [encs, PySem.W.keyToksAll]
    exact (PySem.W.lex_atom (by simp) _ _).trans (show _ = false by rw [PySem.W.lex_one]; decide)
  | .cons e m r, .cons e' m' r' => by
    have h1 := lt_enc e e'
    have h2 := lt_enc r r'
    have a1 : PySem.W.alike (enc e) (enc e') = true := alike_lad e e'
    have a2 : PySem.W.alike (.int m) (.int m') = true := rfl
    have ap : PySem.W.alike (.tuple [enc e, .int m]) (.tuple [enc e', .int m']) = true := by
      simp [PySem.W.alike, PySem.W.alikeAll, alike_enc e e']
    rw [PySem.W.dataLt_tuple] at h2 ⊢
    simp only [encs]
    rw [PySem.W.dataLt_cons ap]
    have ev : PyData.eqv (.tuple [enc e, .int m]) (.tuple [enc e', .int m']) = (decide (e = e') && decide (m = m')) := by
      simp only [PyData.eqv, PyData.eqvAll, eqv_enc, Bool.and_true]
      by_cases b : m = m' <;> simp [b]
    show (if PyData.eqv (.tuple [enc e, .int m]) (.tuple [enc e', .int m']) = true then _ else PySem.W.dataLt (.tuple [enc e, .int m]) (.tuple [enc e', .int m'])) = _
    rw [ev, h2, PySem.W.dataLt_pair a1 a2, h1, eqv_lad, PySem.W.dataLt_int]
    rw [lt_cons]
    by_cases a : e = e'
    · subst a
      by_cases b : m = m'
      · subst b; simp
      · have : PyData.eqv (.int m) (.int m') = false := by simp [PyData.eqv, b]
        simp [b, this]
    · simp [a]
end K11
/-! Wb -/
namespace K11
open PySem L2 Lad
/-! ### == and < of ladders -/
theorem canLay_enc : ∀ l : Lad, PyData.canLayAll0 (encs l) = true
  | .nil => by simp [encs, PyData.canLayAll0]
  | .cons e m r => by simp [encs, PyData.canLayAll0, PyData.canLay0, canLay_enc e, canLay_enc r]
theorem canLay_lad (l : Lad) : PyData.canLay0 (enc l) = true := by
  unfold enc
  rw [PyData.canLay0, canLay_enc]
theorem depth_enc : ∀ l : Lad, PyData.depthAll (encs l) ≤ 2 * l.deep
  | .nil => by simp [encs, PyData.depthAll]
  | .cons e m r => by
    have h1 := depth_enc e
    have h2 := depth_enc r
    have m1 : 1 + e.deep ≤ (Lad.cons e m r).deep := Nat.le_max_left _ _
    have m2 : r.deep ≤ (Lad.cons e m r).deep := Nat.le_max_right _ _
    simp only [encs, PyData.depthAll, PyData.depth]
    omega
theorem depth_lad (l : Lad) : PyData.depth (enc l) ≤ 2 * l.deep + 1 := by
  have := depth_enc l
  unfold enc
  rw [PyData.depth]
  omega
def rEqL (K : PySem.W.Frag) : R2 := fun x y H Q => ∃ l k, LV K H x l ∧ LV K H y k ∧ (l.deep ≤ 80 ∨ k.deep ≤ 80) ∧ Q (.bl (decide (l = k))) H
def rNeL (K : PySem.W.Frag) : R2 := fun x y H Q => ∃ l k, LV K H x l ∧ LV K H y k ∧ (l.deep ≤ 80 ∨ k.deep ≤ 80) ∧ Q (.bl (!decide (l = k))) H
def rLtL (K : PySem.W.Frag) : R2 := fun x y H Q => ∃ l k, LV K H x l ∧ LV K H y k ∧ (l.deep ≤ 80 ∨ k.deep ≤ 80) ∧ Q (.bl (lt l k)) H
section
variable {X : Cx} {j : Nat}
theorem room_lad (hr : Room j X.A) {l k : Lad} (h : l.deep ≤ 80 ∨ k.deep ≤ 80) : X.A.units + min (PyData.depth (enc l)) (PyData.depth (enc k)) < cLine := by
  have h1 := depth_lad l
  have h2 := depth_lad k
  have h3 := hr.un
  have m1 : min (PyData.depth (enc l)) (PyData.depth (enc k)) ≤ PyData.depth (enc l) := Nat.min_le_left _ _
  have m2 : min (PyData.depth (enc l)) (PyData.depth (enc k)) ≤ PyData.depth (enc k) := Nat.min_le_right _ _
  omega
theorem op_eqL (hr : Room j X.A) : OpR X (compareOp .Eq) (rEqL X.K) := by
  intro pins s σ H x y v u Q I rx ry h
  obtain ⟨l, k, hl, hk, hd, q⟩ := h
  obtain ⟨as, r1⟩ := Dp.reads I _ x v hl.dp rx
  obtain ⟨bs, r2⟩ := Dp.reads I _ y u hk.dp ry
  refine SeqAt.compareEq_reads r1 r2 (canLay_lad l) (canLay_lad k) (room_lad hr hd) ⟨.bl _, H, I, rfl, ?_⟩
  rw [eqv_lad]
  exact q
theorem op_neL (hr : Room j X.A) : OpR X (compareOp .NotEq) (rNeL X.K) := by
  intro pins s σ H x y v u Q I rx ry h
  obtain ⟨l, k, hl, hk, hd, q⟩ := h
  obtain ⟨as, r1⟩ := Dp.reads I _ x v hl.dp rx
  obtain ⟨bs, r2⟩ := Dp.reads I _ y u hk.dp ry
  refine SeqAt.compareNe_reads r1 r2 (canLay_lad l) (canLay_lad k) (room_lad hr hd) ⟨.bl _, H, I, rfl, ?_⟩
  rw [eqv_lad]
  exact q
theorem op_ltL (hr : Room j X.A) : OpR X (compareOp .Lt) (rLtL X.K) := by
  intro pins s σ H x y v u Q I rx ry h
  obtain ⟨l, k, hl, hk, hd, q⟩ := h
  obtain ⟨as, r1⟩ := Dp.reads I _ x v hl.dp rx
  obtain ⟨bs, r2⟩ := Dp.reads I _ y u hk.dp ry
  refine PySem.W.lt_data r1 r2 (alike_lad l k) (fun z => nomatch z) (room_lad hr hd) ⟨.bl _, H, I, rfl, ?_⟩
  rw [lt_enc]
  exact q
end
end K11
/-! Wc -/
namespace K11
open PySem L2 Lad
theorem take_snoc {α : Type} {l : List α} {i : Nat} {x : α} (h : l[i]? = some x) : l.take (i + 1) = l.take i ++ [x] := by
  rw [List.take_add_one, h]
  rfl
theorem Same.upd_at {H H1 : Hp} {D : Addr} (hD : H D = none) (s : Same H H1) (o : HO) : Same H (upd H1 D o) := fun b u q => by
  rw [upd_ne (ne_of_none q hD)]
  exact s b u q
/-- a comprehension over a tuple whose elements leave all as it is; ys: what they are -/
theorem lc_tupS {K : PySem.W.Frag} {a : Addr} {xs : List V} {g : TG} {te : TE} {vs : List Nat} {σ : L2.St} {H : Hp} {D : Addr} {Qd : Hp → Prop} (hD : H D = none) (ha : SqT K H a xs) (hz : xs.length ≤ 1000000) (ys : List V) (hy : ys.length = xs.length)
    (hs : ∀ (i : Nat) (x y : V) (H' : Hp) (C : VK), xs[i]? = some x → ys[i]? = some y → Same H H' → (∀ H3, Same H' H3 → C y H3) → g x (wipe σ vs) H' fun σ2 H2 => wipe σ2 vs = wipe σ vs ∧ te σ2 H2 C)
    (hd : ∀ H', Same H H' → H' D = some (.lst ys) → Qd H') :
    ∃ W : Nat → Nat → Hp → Prop, (∃ m, W 0 m (upd H D (.lst []))) ∧ ∀ i m H, W i m H →
      ((Itt K a).stop i H ∧ Qd H) ∨ ((Itt K a).go i H ∧ ∃ Nx : Hp → Prop, (∀ H', Nx H' → ∃ m', m' < m ∧ W (i + 1) m' H') ∧ ∀ x H', (Itt K a).yld i H x H' → g x (wipe σ vs) H' fun σ2 H2 => wipe σ2 vs = wipe σ vs ∧ tYes σ2 H2 fun b H3 =>
        if b = true then te σ2 H3 fun y H4 => ∃ acc, H4 D = some (.lst acc) ∧ acc.length < sizeLine ∧ Nx (upd H4 D (.lst (acc ++ [y]))) else Nx H3) := by
  have big : (1000000 : Nat) < sizeLine := by decide
  refine ⟨fun i m H1 => m = xs.length - i ∧ i ≤ xs.length ∧ Same H H1 ∧ H1 D = some (.lst (ys.take i)), ⟨xs.length, by simp, Nat.zero_le _, same_new hD _, upd_same⟩, ?_⟩
  rintro i m H1 ⟨rfl, hi, S, e⟩
  by_cases hlt : i < xs.length
  · have hx : xs[i]? = some xs[i] := List.getElem?_eq_getElem hlt
    refine .inr ⟨⟨xs, xs[i], SqT.same S ha, hx⟩, fun H2 => Same H H2 ∧ H2 D = some (.lst (ys.take (i + 1))), fun H2 q => ⟨xs.length - (i + 1), by omega, rfl, hlt, q.1, q.2⟩, fun x H2 y => ?_⟩
    obtain ⟨rfl, fx⟩ := y
    have hx' := fx xs (SqT.same S ha)
    have hy' : ys[i]? = some ys[i] := List.getElem?_eq_getElem (by omega)
    refine hs i x _ _ _ hx' hy' S fun H3 S3 => ?_
    refine ⟨ys.take i, S3 _ _ e, by rw [List.length_take]; omega, Same.upd_at hD (S.trans S3) _, ?_⟩
    rw [upd_same, take_snoc hy']
  · have ei : i = xs.length := by omega
    subst ei
    refine .inl ⟨⟨xs, SqT.same S ha, Nat.le_refl _⟩, hd H1 S ?_⟩
    rw [e, List.take_of_length_le (by omega)]
/-- .. over a range -/
theorem lc_rangeS {lo : Int} {n : Nat} {g : TG} {te : TE} {vs : List Nat} {σ : L2.St} {H : Hp} {D : Addr} {Qd : Hp → Prop} (hD : H D = none) (hz : n ≤ 1000000) (ys : List V) (hy : ys.length = n)
    (hs : ∀ (i : Nat) (y : V) (H' : Hp) (C : VK), i < n → ys[i]? = some y → Same H H' → (∀ H3, Same H' H3 → C y H3) → g (.int (lo + i)) (wipe σ vs) H' fun σ2 H2 => wipe σ2 vs = wipe σ vs ∧ te σ2 H2 C)
    (hd : ∀ H', Same H H' → H' D = some (.lst ys) → Qd H') :
    ∃ W : Nat → Nat → Hp → Prop, (∃ m, W 0 m (upd H D (.lst []))) ∧ ∀ i m H, W i m H →
      ((Itr lo n).stop i H ∧ Qd H) ∨ ((Itr lo n).go i H ∧ ∃ Nx : Hp → Prop, (∀ H', Nx H' → ∃ m', m' < m ∧ W (i + 1) m' H') ∧ ∀ x H', (Itr lo n).yld i H x H' → g x (wipe σ vs) H' fun σ2 H2 => wipe σ2 vs = wipe σ vs ∧ tYes σ2 H2 fun b H3 =>
        if b = true then te σ2 H3 fun y H4 => ∃ acc, H4 D = some (.lst acc) ∧ acc.length < sizeLine ∧ Nx (upd H4 D (.lst (acc ++ [y]))) else Nx H3) := by
  have big : (1000000 : Nat) < sizeLine := by decide
  refine ⟨fun i m H1 => m = n - i ∧ i ≤ n ∧ Same H H1 ∧ H1 D = some (.lst (ys.take i)), ⟨n, by simp, Nat.zero_le _, same_new hD _, upd_same⟩, ?_⟩
  rintro i m H1 ⟨rfl, hi, S, e⟩
  by_cases hlt : i < n
  · refine .inr ⟨hlt, fun H2 => Same H H2 ∧ H2 D = some (.lst (ys.take (i + 1))), fun H2 q => ⟨n - (i + 1), by omega, rfl, hlt, q.1, q.2⟩, fun x H2 y => ?_⟩
    obtain ⟨rfl, rfl⟩ := y
    have hy' : ys[i]? = some ys[i] := List.getElem?_eq_getElem (by omega)
    refine hs i _ _ _ hlt hy' S fun H3 S3 => ?_
    refine ⟨ys.take i, S3 _ _ e, by rw [List.length_take]; omega, Same.upd_at hD (S.trans S3) _, ?_⟩
    rw [upd_same, take_snoc hy']
  · have ei : i = n := by omega
    subst ei
    refine .inl ⟨Nat.le_refl _, hd H1 S ?_⟩
    rw [e, List.take_of_length_le (by omega)]
end K11
/-! Wd -/
namespace K11
open PySem L2 Lad
/-! ### texts -/
def S (t : List Nat) : Str := ⟨t.toArray⟩
abbrev T (t : List Nat) : V := .str (S t)
theorem S_list (t : List Nat) : (S t).cps.toList = t := rfl
theorem S_len (t : List Nat) : (S t).length = t.length := by show t.toArray.size = _; simp
theorem str_ext {x y : Str} (h : x.cps.toList = y.cps.toList) : x = y := PySem.W.str_of_cps h
theorem S_eta (x : Str) : S x.cps.toList = x := str_ext rfl
theorem S_app (a b : List Nat) : S a ++ S b = S (a ++ b) := by
  refine str_ext ?_
  show ((S a).cps ++ (S b).cps).toList = _
  rw [Array.toList_append]
  rfl
theorem S_inj {a b : List Nat} (h : S a = S b) : a = b := by
  have : (S a).cps.toList = (S b).cps.toList := by rw [h]
  exact this
theorem S_dec (a b : List Nat) : decide (T a = T b) = decide (a = b) := by
  by_cases h : a = b
  · subst h; simp
  · rw [decide_eq_false h, decide_eq_false (fun q => h (S_inj (V.str.inj q)))]
theorem S_num {m : Int} (h : 0 ≤ m) : Str.ofString (toString m) = S (dig m.toNat) := by
  refine str_ext ?_
  obtain ⟨n, rfl⟩ := Int.eq_ofNat_of_zero_le h
  rw [PySem.W.KIN.signs_num]
  rfl
theorem big16 : (16000000 : Nat) < sizeLine := by decide
theorem log_ok {m : Int} (h0 : 1 ≤ m) (h : m < 10 ^ 61) : m.natAbs.log2 < 1920 := by
  have h1 : m.natAbs < 2 ^ 203 := by
    have : m.natAbs < 10 ^ 61 := by omega
    exact Nat.lt_trans this (by decide)
  exact Nat.lt_trans ((Nat.log2_lt (by omega)).mpr h1) (by decide)
/-- the texts of the pairs, and + between them -/
def txts (l : Lad) : List (List Nat) := (toRows l).map fun p => showPair p.1 (shows p.1) p.2
theorem shows_cons (e : Lad) (m : Int) (r : Lad) : shows (.cons e m r) = showPair e (shows e) m ++ (if r = .nil then [] else 43 :: shows r) := by rw [shows]
theorem join_txts : ∀ l : Lad, TL.joinL [43] (txts l) = shows l
  | .nil => rfl
  | .cons e m .nil => by
    show showPair e (shows e) m = shows _
    rw [shows_cons, if_pos rfl, List.append_nil]
  | .cons e m (.cons e' m' r) => by
    have ih := join_txts (.cons e' m' r)
    show showPair e (shows e) m ++ ([43] ++ TL.joinL [43] (txts (.cons e' m' r))) = _
    rw [ih, shows_cons e m (.cons e' m' r), if_neg (fun z => nomatch z)]
    rfl
theorem S_join (l : Lad) : Txt.join (S [43]) ((txts l).map S) = S (shows l) := by
  refine str_ext ?_
  show TL.tl (Txt.join (S [43]) ((txts l).map S)) = shows l
  rw [TL.join_eq, TL.tl_join, List.map_map]
  have e : (TL.tl ∘ S) = id := by funext t; rfl
  rw [e, List.map_id]
  exact join_txts l
theorem txts_len : ∀ l : Lad, ((txts l).map List.length).sum + (txts l).length ≤ (shows l).length + 1
  | .nil => Nat.zero_le _
  | .cons e m .nil => by
    rw [shows_cons, if_pos rfl, List.append_nil]
    exact Nat.le_refl _
  | .cons e m (.cons e' m' r) => by
    have ih := txts_len (.cons e' m' r)
    rw [shows_cons e m (.cons e' m' r), if_neg (fun z => nomatch z), List.length_append, List.length_cons]
    show (showPair e (shows e) m).length + ((txts (.cons e' m' r)).map List.length).sum + ((txts (.cons e' m' r)).length + 1) ≤ _
    omega
theorem row_gd {w : Nat} : ∀ {l : Lad} {i : Nat} {e : Lad} {m : Int}, gd w l → (toRows l)[i]? = some (e, m) → gd w e ∧ 1 ≤ m ∧ m < 10 ^ w
  | .nil, _, _, _, _, h => by cases h
  | .cons e0 m0 r, 0, e, m, ⟨a, b, _⟩, h => by
    cases h
    exact ⟨a, b⟩
  | .cons e0 m0 r, i + 1, e, m, ⟨_, _, c⟩, h => row_gd (l := r) (i := i) c h
/-! slices -/
theorem cut_nat (t : List Nat) (a b : Nat) : cutS (S t) (some (a : Int)) (some (b : Int)) = S ((t.drop a).take (b - a)) := by
  refine str_ext ?_
  unfold cutS
  rw [HT.sIx_nat, HT.sIx_nat, S_len]
  show (t.drop (min a t.length)).take (min b t.length - min a t.length) = (t.drop a).take (b - a)
  by_cases h : a ≤ t.length
  · rw [Nat.min_eq_left h]
    by_cases h2 : b ≤ t.length
    · rw [Nat.min_eq_left h2]
    · rw [Nat.min_eq_right (by omega), List.take_of_length_le (by rw [List.length_drop]; omega), List.take_of_length_le (by rw [List.length_drop]; omega)]
  · rw [List.drop_of_length_le (show t.length ≤ min a t.length by omega), List.drop_of_length_le (show t.length ≤ a by omega)]
    simp
/-- one sign of a text, or nothing -/
theorem cut_one (t : List Nat) (a : Nat) (i j : Int) (hi : i = (a : Nat)) (hj : j = ((a + 1 : Nat) : Int)) : cutS (S t) (some i) (some j) = S ((t.drop a).take 1) := by
  rw [hi, hj, cut_nat]
  rw [show a + 1 - a = 1 by omega]
theorem take1 (t : List Nat) (c : Nat) : (t.take 1 = [c]) ↔ ∃ r, t = c :: r := by
  cases t with
  | nil => simp
  | cons a r => simp
theorem lit_z : ("z" : Str) = S [122] := by decide +kernel
theorem lit_zb : ("z[" : Str) = S [122, 91] := by decide +kernel
theorem lit_c : ("]" : Str) = S [93] := by decide +kernel
theorem lit_star : ("*" : Str) = S [42] := by decide +kernel
theorem lit_plus : ("+" : Str) = S [43] := by decide +kernel
theorem lit_0 : ("0" : Str) = S [48] := by decide +kernel
theorem lit_b : ("[" : Str) = S [91] := by decide +kernel
end K11
/-! We -/
namespace K11
open PySem L2 Lad
/-! ### sorted(rows) -/
abbrev PVs (K : PySem.W.Frag) (H : Hp) : List V → List Row → Prop := Paired fun x (p : Row) => PV K H x p.1 p.2
theorem PVs.gr {K : PySem.W.Frag} {H H' : Hp} (g : Gr H H') {xs : List V} {rows : List Row} (h : PVs K H xs rows) : PVs K H' xs rows := Paired.mapP h fun _ _ q => PV.gr g q
theorem PVs.lvs {K : PySem.W.Frag} {H : Hp} : ∀ {xs : List V} {rows : List Row}, PVs K H xs rows → LVs K H xs (ofRows rows)
  | _, _, .nil => rfl
  | _, _, .cons h t => LVs.cons h (PVs.lvs t)
theorem Paired.app {α β : Type} {F : α → β → Prop} : ∀ {a c : List α} {b d : List β}, Paired F a b → Paired F c d → Paired F (a ++ c) (b ++ d)
  | _, _, _, _, .nil, s => s
  | _, _, _, _, .cons r t, s => .cons r (Paired.app t s)
theorem Paired.rev {α β : Type} {F : α → β → Prop} : ∀ {a : List α} {b : List β}, Paired F a b → Paired F a.reverse b.reverse
  | _, _, .nil => .nil
  | _, _, .cons r t => by
    rw [List.reverse_cons, List.reverse_cons]
    exact Paired.app (Paired.rev t) (.cons r .nil)
theorem Paired.len {α β : Type} {F : α → β → Prop} : ∀ {a : List α} {b : List β}, Paired F a b → a.length = b.length
  | _, _, .nil => rfl
  | _, _, .cons _ t => by rw [List.length_cons, List.length_cons, Paired.len t]
theorem Paired.get {α β : Type} {F : α → β → Prop} : ∀ {a : List α} {b : List β} {i : Nat} {x : α}, Paired F a b → a[i]? = some x → ∃ y, b[i]? = some y ∧ F x y
  | _, _, _, _, .nil, e => by simp at e
  | _, _, 0, _, .cons r _, e => by simp at e; subst e; exact ⟨_, rfl, r⟩
  | _, _, i + 1, x, .cons _ t, e => by
    obtain ⟨y, h1, h2⟩ := Paired.get (i := i) (x := x) t (by simpa using e)
    exact ⟨y, by simpa using h1, h2⟩
def encR (p : Row) : PyData := .tuple [enc p.1, .int p.2]
theorem PV.dp {K : PySem.W.Frag} {H : Hp} {v : V} {e : Lad} {m : Int} (h : PV K H v e m) : Dp K H v (encR (e, m)) := by
  obtain ⟨p, ve, rfl, h1, h2⟩ := h
  exact .tup h1 (.cons h2.dp (.cons (.int m) .nil))
theorem lt_row (a b : Row) : PySem.W.dataLt (encR a) (encR b) = rowLt a b := by
  unfold encR
  rw [PySem.W.dataLt_pair (alike_lad a.1 b.1) rfl, eqv_lad, lt_enc, PySem.W.dataLt_int]
  unfold rowLt
  by_cases h : a.1 = b.1
  · rw [if_pos (decide_eq_true h), if_pos h]
    by_cases h2 : a.2 = b.2
    · rw [if_pos (by rw [h2]; simp [PyData.eqv]), h2]
      simp
    · rw [if_neg (by simp [PyData.eqv, h2])]
  · rw [if_neg (by simp [h]), if_neg h]
theorem le_row : PySem.W.dataLe false encR = rowLe := by
  funext a b
  rw [PySem.W.dataLe_eq]
  show (!PySem.W.dataLt (encR b) (encR a)) = _
  rw [lt_row]
  rfl
theorem alike_row (a b : Row) : PySem.W.alike (encR a) (encR b) = true := by
  unfold encR
  simp [PySem.W.alike, PySem.W.alikeAll, alike_enc a.1 b.1]
theorem depth_row (p : Row) : PyData.depth (encR p) ≤ 2 * p.1.deep + 2 := by
  have := depth_lad p.1
  unfold encR
  simp only [PyData.depth, PyData.depthAll] at this ⊢
  omega
def rSortL (K : PySem.W.Frag) : List V → Hp → VK → Prop := fun vs H Q => ∃ (a : Addr) (xs : List V) (rows : List Row), vs = [.ref a] ∧ SqL K H a xs ∧ PVs K H xs rows ∧ rows.length ≤ 1000 ∧ (∀ r ∈ rows, r.1.deep ≤ 80) ∧
  ∀ p ys, H p = none → PVs K H ys (rows.mergeSort rowLe) → Q (.ref p) (upd H p (.lst ys))
theorem each_of {K : PySem.W.Frag} {H : Hp} : ∀ {xs : List V} {us : List Value} {rows : List Row}, Vals xs us → PVs K H xs rows → PySem.W.EachIs (fun u (b : Row) => ∃ x, RelV x u ∧ PV K H x b.1 b.2) us rows
  | _, _, _, .nil, .nil => .nil
  | _, _, _, .cons r t, .cons p q => .cons ⟨_, r, p⟩ (each_of t q)
theorem of_each {K : PySem.W.Frag} {H : Hp} : ∀ {us : List Value} {rows : List Row}, PySem.W.EachIs (fun u (b : Row) => ∃ x, RelV x u ∧ PV K H x b.1 b.2) us rows → ∃ ys, Vals ys us ∧ PVs K H ys rows
  | _, _, .nil => ⟨[], .nil, .nil⟩
  | _, _, .cons ⟨x, r, p⟩ t => by
    obtain ⟨ys, h1, h2⟩ := of_each t
    exact ⟨x :: ys, .cons r h1, .cons p h2⟩
theorem each_reads {X : Cx} {pins : List (Addr × Obj)} {σ : L2.St} {H : Hp} {s : Shared} (I : Inv X pins σ H s) : ∀ {xs : List V} {us : List Value} {rows : List Row}, Vals xs us → PVs X.K H xs rows → PySem.W.EachIs (fun u (b : Row) => ∃ as, PySem.Reads s.heap u (encR b) as) us rows
  | _, _, _, .nil, .nil => .nil
  | _, _, _, .cons r t, .cons p q => .cons (Dp.reads I _ _ _ p.dp r) (each_reads I t q)
theorem call_sortL {X : Cx} {j : Nat} (hr : Room j X.A) : CallR X (.builtin "sorted") (rSortL X.K) := by
  intro pins s σ H vs us Q I r h
  obtain ⟨a, xs, rows, rfl, hs, hp, hl, hd, q⟩ := h
  obtain ⟨its, rv, pl, hz⟩ := I.list hs
  rw [Vals.ref1 r]
  have hun := hr.un
  have big : (1000 : Nat) < sizeLine := by decide
  refine PySem.W.sorted_data (enc := encR) pl.isList (each_of rv hp) (each_reads I rv hp) (PySem.W.AllAlike.of alike_row) (PySem.W.Sortable.tuples fun b => ⟨_, _, rfl⟩) (by omega) (fun b hb => ?_) fun out hlen ho => ?_
  · have := depth_row b
    have := hd b hb
    omega
  · rw [le_row] at ho
    obtain ⟨ys, h1, h2⟩ := of_each ho
    obtain ⟨c, hc⟩ := PyProof.Rows.sortedAll_at s.heap its out.toArray
    have hn : H (s.heap.objs.size + 1) = none := I.hok.fresh (Nat.le_succ _)
    refine ⟨.ref (s.heap.objs.size + 1), upd H (s.heap.objs.size + 1) (.lst ys), I.laid (t' := s.toks) (fun b o e => PyProof.Rows.sortedAll_old e) (Nat.le_succ _) ?_, rfl, q _ _ hn h2⟩
    refine ⟨?_, out, c, h1, hc⟩
    rw [h1.length, hlen]
    omega
end K11
/-! Wf -/
namespace K11
open PySem L2 Lad
/-! ### xs == [] -/
def rEqNil (K : PySem.W.Frag) : R2 := fun x y H Q => ∃ (a b : Addr) (xs : List V), x = .ref a ∧ y = .ref b ∧ SqL K H a xs ∧ SqL K H b [] ∧ Q (.bl xs.isEmpty) H
theorem op_eqNil {X : Cx} {j : Nat} (hr : Room j X.A) : OpR X (compareOp .Eq) (rEqNil X.K) := by
  intro pins s σ H x y v u Q I rx ry h
  obtain ⟨a, b, xs, rfl, rfl, ha, hb, q⟩ := h
  cases rx
  cases ry
  obtain ⟨its, rv, pa, _⟩ := I.list ha
  obtain ⟨its2, rv2, pb, _⟩ := I.list hb
  cases rv2
  have hl := rv.length
  cases xs with
  | nil =>
    cases rv
    have := SeqAt.RcAt.lists (A := X.A) (e := fun _ => true) pa.isList pb.isList rfl hr.units0 (fun j h1 _ => absurd h1 (Nat.not_lt_zero _))
    exact this X.prog X.w X.xe _ ⟨.bl _, H, I, rfl, q⟩
  | cons x xs =>
    have hsz : (its.toArray.size != ([] : List Value).toArray.size) = true := by
      rw [List.size_toArray, ← hl]
      simp
    have := SeqAt.RcAt.lists_lengths (A := X.A) pa.isList pb.isList hsz hr.units0
    exact this X.prog X.w X.xe _ ⟨.bl _, H, I, rfl, q⟩
/-- a comprehension over zip of two tuples of one length -/
theorem lc_zipS {K : PySem.W.Frag} {a b : Addr} {xs ys : List V} {g : TG} {te : TE} {vs : List Nat} {σ : L2.St} {H : Hp} {D : Addr} {Qd : Hp → Prop} (hD : H D = none) (ha : SqT K H a xs) (hb : SqT K H b ys) (hl : xs.length = ys.length) (hz : xs.length ≤ 1000000) (zs : List V) (hy : zs.length = xs.length)
    (hs : ∀ (i : Nat) (x y z : V) (Tp : Addr) (H' : Hp) (C : VK), xs[i]? = some x → ys[i]? = some y → zs[i]? = some z → Same H H' → H' Tp = some (.tup [x, y]) → (∀ H3, Same H' H3 → C z H3) → g (.ref Tp) (wipe σ vs) H' fun σ2 H2 => wipe σ2 vs = wipe σ vs ∧ te σ2 H2 C)
    (hd : ∀ H', Same H H' → H' D = some (.lst zs) → Qd H') :
    ∃ W : Nat → Nat → Hp → Prop, (∃ m, W 0 m (upd H D (.lst []))) ∧ ∀ i m H, W i m H →
      ((RZ.ItzT K a b).stop i H ∧ Qd H) ∨ ((RZ.ItzT K a b).go i H ∧ ∃ Nx : Hp → Prop, (∀ H', Nx H' → ∃ m', m' < m ∧ W (i + 1) m' H') ∧ ∀ x H', (RZ.ItzT K a b).yld i H x H' → g x (wipe σ vs) H' fun σ2 H2 => wipe σ2 vs = wipe σ vs ∧ tYes σ2 H2 fun b H3 =>
        if b = true then te σ2 H3 fun y H4 => ∃ acc, H4 D = some (.lst acc) ∧ acc.length < sizeLine ∧ Nx (upd H4 D (.lst (acc ++ [y]))) else Nx H3) := by
  have big : (1000000 : Nat) < sizeLine := by decide
  refine ⟨fun i m H1 => m = xs.length - i ∧ i ≤ xs.length ∧ Same H H1 ∧ H1 D = some (.lst (zs.take i)), ⟨xs.length, by simp, Nat.zero_le _, same_new hD _, upd_same⟩, ?_⟩
  rintro i m H1 ⟨rfl, hi, S, e⟩
  by_cases hlt : i < xs.length
  · have hx : xs[i]? = some xs[i] := List.getElem?_eq_getElem hlt
    have hy2 : ys[i]? = some ys[i] := List.getElem?_eq_getElem (by omega)
    refine .inr ⟨⟨xs, ys, xs[i], _, SqT.same S ha, SqT.same S hb, hx, hy2⟩, fun H2 => Same H H2 ∧ H2 D = some (.lst (zs.take (i + 1))), fun H2 q => ⟨xs.length - (i + 1), by omega, rfl, hlt, q.1, q.2⟩, fun v H2 y => ?_⟩
    obtain ⟨Tp, x', y', rfl, hT, rfl, fx, fy⟩ := y
    have hx' := fx xs (SqT.same S ha)
    have hy' := fy ys (SqT.same S hb)
    have hz' : zs[i]? = some zs[i] := List.getElem?_eq_getElem (by omega)
    have S2 := S.trans (same_new hT (.tup [x', y']))
    refine hs i x' y' _ Tp _ _ hx' hy' hz' S2 upd_same fun H3 S3 => ?_
    refine ⟨zs.take i, S3 _ _ (same_new hT _ _ _ e), by rw [List.length_take]; omega, Same.upd_at hD (S2.trans S3) _, ?_⟩
    rw [upd_same, take_snoc hz']
  · have ei : i = xs.length := by omega
    subst ei
    refine .inl ⟨⟨xs, ys, SqT.same S ha, SqT.same S hb, .inl (Nat.le_refl _)⟩, hd H1 S ?_⟩
    rw [e, List.take_of_length_le (by omega)]
end K11
/-! Wg -/
namespace K11
open PySem L2 Lad
/-! ### one token is out -/
def PE1 (X : Cx) (e : Expr) (t : TE) : Prop :=
  ∀ (pins : List (Addr × Obj)) (s : Shared) (σ : L2.St) (H : Hp) (Q : VK), Inv X pins σ H s → t σ H Q → wpAny (model X.prog X.w) X.A (eval e X.env) (fun v s' => 1 ≤ s'.toks ∧ EP X pins σ Q v s') X.xe s
section
variable {X : Cx} {pos : Pos}
theorem pe1_str {x : Str} {j : Nat} : PE1 X (.Constant (.str x) j pos) (tC (.str x)) := fun _ _ _ H _ I h =>
  PySem.Calls.Constant_str ⟨Nat.le_add_left _ _, .str x, H, I.tok _, ⟨_, rfl⟩, h⟩
theorem pe1_op {a b : Expr} {ta tb : TE} {op : Operator} {r : R2} (ho : OpR X (binaryOp op) r) (ha : PE X a ta) (hb : PE1 X b tb) : PE1 X (.BinOp a op b pos) (tOp r ta tb) := by
  intro pins s σ H Q I h
  refine wpAny_BinOp (thn (ha.run pins s σ H _ I h) fun v s1 ⟨x, H1, I1, r1, q1⟩ => ?_)
  refine thn (hb pins s1 σ H1 _ I1 q1) fun u s2 ⟨hk, y, H2, I2, r2, q2⟩ => ?_
  exact wpAny_mono (PySem.wpAny_toks_of hk (ho pins s2 σ H2 x y v u Q I2 r1 r2 q2)) (fun _ _ q => q) fun _ _ z => z.2
def PA1 (X : Cx) (es : List Expr) (t : TA) : Prop :=
  ∀ (pos : Pos) (pins : List (Addr × Obj)) (s : Shared) (σ : L2.St) (H : Hp) (Q : List V → Hp → Prop), Inv X pins σ H s → t σ H Q → wpAny (model X.prog X.w) X.A (spliced (backTo pos (starEach es X.env))) (fun us s' => 1 ≤ s'.toks ∧ AP X pins σ Q us s') X.xe s
theorem pa1_cons {e : Expr} {es : List Expr} {te : TE} {ta : TA} (ha : PE1 X e te) (hr : PA X es ta) (hs : starEach (e :: es) X.env = (false, eval e X.env) :: starEach es X.env := by rfl) : PA1 X (e :: es) (tCons te ta) := by
  intro pos pins s σ H Q I h
  rw [hs]
  show wpAny _ _ (spliced ((false, eval e X.env) :: backTo pos (starEach es X.env))) _ _ s
  refine PySem.Calls.spliced_cons (thn (ha pins s σ H _ I h) fun v s1 ⟨hk, x, H1, I1, r1, q1⟩ => ?_)
  refine wpAny_mono (PySem.wpAny_toks_of hk (hr.run pos pins s1 σ H1 _ I1 q1)) (fun us s2 q => ?_) fun _ _ z => z.2
  obtain ⟨hk2, xs, H2, I2, r2, q2⟩ := q
  exact ⟨hk2, x :: xs, H2, I2, .cons r1 r2, q2⟩
theorem pe1_lst {es : List Expr} {ta : TA} (h : PA1 X es ta) : PE1 X (.List es pos) (tLst ta) := by
  intro pins s σ H Q I hq
  refine wpAny_List_spliced (thn (h pos pins s σ H _ I hq) fun us s1 ⟨hk, xs, H1, I1, r, z, q⟩ => ⟨by rw [← r.length]; exact z, ?_⟩)
  have hf : H1 s1.heap.objs.size = none := I1.hok.fresh (Nat.le_refl _)
  refine ⟨hk, .ref s1.heap.objs.size, upd H1 s1.heap.objs.size (.lst xs), I1.laid (t' := s1.toks) (fun b u e => Heap.get?_push_of_some _ e) (Nat.le_refl _) ?_, rfl, q _ hf⟩
  exact ⟨z, us, 0, r, Heap.get?_push_size _ rfl⟩
/-- a value that took a token is stored under a name -/
theorem pss_set1 {i : Nat} {x : Str} {e : Expr} {rest : List Stmt} {te : TE} {u : TS} {pos' : Pos} (hN : X.N.Nodup) (hi : X.N[i]? = some x) (hx : Loc X.env.scope x) (he : PE1 X e te) (h2 : PSsT X rest u)
    (hs : swapsWith e (some (.Name x pos')) pos.line X.env = pure false := by rfl) (hf : X.fn x = true ∨ X.env.scope.names.lookup x = some .local := by first | exact .inl rfl | exact .inr rfl | assumption) :
    PSs X (.Assign [.Name x pos'] e pos :: rest) (tSeq (tAsg te (gName i)) u) := by
  refine ⟨fun pins s σ H D I h => ?_⟩
  refine wpAny_execs_cons (wpAny_Assign_Name (thn (he pins s σ H _ I h) fun v s1 ⟨hk, y, H1, I1, r1, q1⟩ => ?_) hs)
  refine wpAny_mono (PySem.wpAny_toks_of hk (store_ok (Q := fun _ s2 => Inv X pins (σ.set i (some y)) H1 s2) I1 hN hi hx r1 (fun _ I2 => I2) hf)) (fun _ s2 q => ?_) fun _ _ z => z.2
  exact h2 pins s2 _ H1 D q.1 q.2 q1
theorem pst_set {i : Nat} {x : Str} {e : Expr} {te : TE} {pos' : Pos} (hN : X.N.Nodup) (hi : X.N[i]? = some x) (hx : Loc X.env.scope x) (he : PET X e te)
    (hs : swapsWith e (some (.Name x pos')) pos.line X.env = pure false := by rfl) (hf : X.fn x = true ∨ X.env.scope.names.lookup x = some .local := by first | exact .inl rfl | exact .inr rfl | assumption) :
    PST X (.Assign [.Name x pos'] e pos) (tAsg te (gName i)) := by
  intro pins s σ H D h0 I h
  refine wpAny_Assign_Name (thn (he pins s σ H _ h0 I h) fun v s1 ⟨y, H1, I1, r1, q1⟩ => ?_) hs
  exact store_ok I1 hN hi hx r1 (fun s2 I2 => ⟨_, H1, I2, q1⟩) hf
/-! ### text * 0, text * 1 -/
def rMulS : R2 := fun x y H Q => ∃ (z : Str) (i : Int), x = .str z ∧ y = .int i ∧ (i = 0 ∨ i = 1) ∧ Q (.str (if i = 0 then S [] else z)) H
theorem op_mulS : OpR X (binaryOp .Mult) rMulS := by
  intro pins s σ H x y v u Q I rx ry h
  obtain ⟨z, i, rfl, rfl, hi, q⟩ := h
  obtain ⟨t, rfl⟩ := rx
  obtain ⟨t', rfl⟩ := ry
  rcases hi with rfl | rfl
  · exact PySem.P.mul_str_none (by decide) (by decide) ⟨.str _, H, I.tok _, ⟨_, rfl⟩, q⟩
  · refine PySem.P.mul_str (by decide) (fun _ h => by simp at h) (fun _ h => by simp at h) ?_
    rw [if_neg (by decide), if_pos (by simp)]
    exact ⟨.str z, H, I, ⟨_, rfl⟩, q⟩
end
/-! ### t[::-1] of a tuple -/
theorem range_all {α : Type} : ∀ r : List α, (List.range r.length).filterMap (fun k => r[k]?) = r
  | [] => rfl
  | a :: r => by
    have ih := range_all r
    rw [List.length_cons, List.range_succ_eq_map, List.filterMap_cons, List.filterMap_map]
    show a :: (List.range r.length).filterMap ((fun k => (a :: r)[k]?) ∘ Nat.succ) = _
    have e : ((fun k => (a :: r)[k]?) ∘ Nat.succ) = fun k => r[k]? := by
      funext k
      simp
    rw [e, ih]
theorem fm_congr {α β : Type} {f g : α → Option β} : ∀ {l : List α}, (∀ x ∈ l, f x = g x) → l.filterMap f = l.filterMap g
  | [], _ => rfl
  | a :: l, h => by
    rw [List.filterMap_cons, List.filterMap_cons, h a List.mem_cons_self, fm_congr fun x hx => h x (List.mem_cons_of_mem _ hx)]
theorem range_rev {α : Type} (l : List α) : (List.range l.length).filterMap (fun k => l[l.length - 1 - k]?) = l.reverse := by
  have h : (List.range l.length).filterMap (fun k => l[l.length - 1 - k]?) = (List.range l.reverse.length).filterMap (fun k => l.reverse[k]?) := by
    rw [List.length_reverse]
    refine fm_congr fun k hk => ?_
    rw [List.getElem?_reverse (List.mem_range.mp hk)]
  rw [h, range_all]
open PyProof.Rows HT in
theorem sliceApplied_rev {prog : Program} {w : World} {A : Around} {E : Value → Shared → Prop} {s : Shared} {sl : Addr} {n : Nat} {tk : Tok} {Q : Int × Int × Nat → Shared → Prop} (hs : s.heap.IsSliceOf sl .none .none (.int (-1) tk))
    (q : Q ((n : Int) - 1, -1, n) s) : wpAny (model prog w) A (Builtin.Slice.sliceApplied (.ref sl) (pure (n : Int))) Q E s := by
  obtain ⟨os, hos, hcs, hds⟩ := id hs
  unfold Builtin.Slice.sliceApplied Builtin.Slice.sliceFields
  refine wpAny_bind (wpAny_bind (wpAny_field hos hds (x := .none) rfl (wpAny_bind (wpAny_field hos hds (x := .none) rfl (wpAny_bind (wpAny_field hos hds (x := .int (-1) tk) rfl (wpAny_pure ?_)))))))
  refine wpAny_bind (slicePart_int ?_)
  show wpAny _ _ (if ((-1 : Int) == 0) = true then _ else _) _ _ s
  rw [if_neg (by decide)]
  refine wpAny_bind (slicePart_none (wpAny_bind (slicePart_none (wpAny_bind (wpAny_pure ?_)))))
  show wpAny _ _ (match Builtin.Slice.sliceAdjust none none (-1) (n : Int) with | (lo, hi) => pure (lo, (-1 : Int), Builtin.Slice.slicePlaces lo hi (-1))) _ _ s
  have e1 : Builtin.Slice.sliceAdjust none none (-1) (n : Int) = ((n : Int) - 1, -1) := by
    unfold Builtin.Slice.sliceAdjust
    rfl
  rw [e1]
  show wpAny _ _ (pure ((n : Int) - 1, (-1 : Int), Builtin.Slice.slicePlaces ((n : Int) - 1) (-1) (-1))) _ _ s
  have e2 : Builtin.Slice.slicePlaces ((n : Int) - 1) (-1) (-1) = n := by
    unfold Builtin.Slice.slicePlaces
    rw [if_neg (by decide), Int.neg_neg, Int.ediv_one]
    split <;> omega
  rw [e2]
  exact wpAny_pure q
open PyProof.Rows HT in
theorem getItem_tuple_rev {prog : Program} {w : World} {A : Around} {E : Value → Shared → Prop} {s : Shared} {t sl : Addr} {items : Array Value} {tk : Tok} {Q : Value → Shared → Prop} (ht : IsTup s.heap t items) (hs : s.heap.IsSliceOf sl .none .none (.int (-1) tk))
    (h : Q (.ref s.heap.objs.size) { s with heap := s.heap.push { cls := .type "tuple", data := .seq items.toList.reverse.toArray } })
    (hsz : items.size ≤ sizeLine) : wpAny (model prog w) A (getItem (.ref t) (.ref sl)) Q E s := by
  have htake : sizeOk (.seq items.toList.reverse.toArray) := by
    show items.toList.reverse.toArray.size ≤ sizeLine
    rw [List.size_toArray, List.length_reverse, Array.length_toList]
    exact hsz
  obtain ⟨os, hos, hcs, hds⟩ := id hs
  have hTs : s.TypeIs (.ref sl) "slice" := ⟨os, hos, hcs⟩
  unfold getItem
  try with_reducible refine wpAny_holding ?_
  first | refine wpAny_bind (wpAny_pure ?_) | skip
  refine wpAny_bind (wpAny_sequenceKey ht.typeIs (by decide) ?_)
  refine wpAny_bind (wpAny_callSpecial?_slot (name := Str.ofString "__getitem__") ht.typeIs PyProof.Rows.slot_tuple_getitem
    (wpAny_call_entry PyProof.Rows.slot_tuple_getitem ht.typeIs entry_tuple_getitem ?_ (args_tuple_getitem _ _)))
  show wpAny _ _ (Builtin.Tuple.tupleItemsOf (.ref t) >>= _) _ _ s
  refine wpAny_bind (tupleItemsOf_ ht ?_)
  refine wpAny_bind (wpAny_typeOf hTs ?_)
  rw [if_pos (by decide)]
  refine wpAny_bind (sliceApplied_rev hs ?_)
  have hno : ¬ (((((items.size : Nat) : Int) - 1 == 0) && ((-1 : Int) == 1) && (items.size == items.size)) = true) := by
    intro q
    rw [Bool.and_eq_true, Bool.and_eq_true] at q
    exact absurd q.1.2 (by decide)
  show wpAny _ _ (if ((((items.size : Nat) : Int) - 1 == 0) && ((-1 : Int) == 1) && (items.size == items.size)) = true then _ else _) _ _ s
  rw [if_neg hno]
  have e3 : ((List.range items.size).filterMap fun (k : Nat) => items[(((items.size : Nat) : Int) - 1 + (k : Int) * (-1)).toNat]?).toArray = items.toList.reverse.toArray := by
    rw [← range_rev, Array.length_toList]
    congr 1
    refine fm_congr fun k hk => ?_
    have hk' := List.mem_range.mp hk
    rw [Array.getElem?_toList]
    congr 1
    omega
  rw [e3]
  first
    | exact wpAny_bind (m := Builtin.Tuple.tupleExact _) (wpAny_newObj_type (wpAny_pure ⟨_, rfl, wpAny_pure h⟩) htake)
    | exact wpAny_bind (m := Builtin.Tuple.tupleExact _) (wpAny_newObj_type (wpAny_bind (wpAny_pure (wpAny_pure ⟨_, rfl, wpAny_pure h⟩))) htake)
    | exact wpAny_bind (wpAny_bind (m := Builtin.Tuple.tupleExact _) (wpAny_newObj_type (wpAny_pure (wpAny_pure ⟨_, rfl, wpAny_pure h⟩)) htake))
    | exact wpAny_bind (wpAny_bind (m := Builtin.Tuple.tupleExact _) (wpAny_newObj_type (wpAny_pure ⟨_, rfl, wpAny_pure h⟩) htake))
section
variable {X : Cx}
def tRevT (K : PySem.W.Frag) (te : TE) : TE := fun σ H Q => te σ H fun x H1 => ∃ a xs, x = .ref a ∧ SqT K H1 a xs ∧ ∀ p, H1 p = none → Q (.ref p) (upd H1 p (.tup xs.reverse))
open PyProof.Rows HT in
theorem pe_revT {e : Expr} {te : TE} {k : Nat} {p1 p2 p3 pos : Pos} (he : PE X e te) : PE X (.Subscript e (.Slice none none (some (.UnaryOp .USub (.Constant (.int 1) k p1) p2)) p3) pos) (tRevT X.K te) := by
  refine ⟨fun pins s σ H Q I h => ?_⟩
  refine Subscript_ (thn (he.run pins s σ H _ I h) fun v s1 ⟨x, H1, I1, r1, q1⟩ => ?_)
  obtain ⟨a, xs, ex, hx, q⟩ := q1
  subst ex
  cases r1
  have hst : PO X (some (.UnaryOp .USub (.Constant (.int 1) k p1) p2)) (tPart (tUn (rU fun i => .int (-i)) (tC (.int 1)))) := po_some (pe_un un_neg pe_int)
  refine wpAny_Slice (thn (po_none.run pins s1 σ H1 (fun o H2 => o = none ∧ H2 = H1) I1 ⟨rfl, rfl⟩) fun vl s2 ⟨l, H2, I2, pl, el, e2⟩ => ?_)
  subst el e2
  refine thn (po_none.run pins s2 σ H2 (fun o H3 => o = none ∧ H3 = H2) I2 ⟨rfl, rfl⟩) fun vu s3 ⟨u, H3, I3, pu, eu, e3⟩ => ?_
  subst eu e3
  refine thn (hst.run pins s3 σ H3 (fun o H4 => o = some (-1) ∧ H4 = H3) I3 ⟨1, rfl, -1, rfl, rfl, rfl⟩) fun vs s4 ⟨o, H4, I4, ps, eo, e4⟩ => ?_
  subst eo e4
  cases pl
  cases pu
  obtain ⟨tk, rfl⟩ : ∃ tk, vs = .int (-1) tk := by
    cases ps
    exact ⟨_, rfl⟩
  have I5 : Inv X pins σ H4 { s4 with heap := s4.heap.push { cls := .type "slice", data := .fields #[.none, .none, .int (-1) tk] } } := I4.kept (t' := s4.toks) fun b ob q => Heap.get?_push_of_some _ q
  obtain ⟨its, r, ht, hz⟩ := I5.tuple hx
  have hlen := r.length
  show wpAny (model X.prog X.w) X.A (subscriptTail e (.Slice none none (some (.UnaryOp .USub (.Constant (.int 1) k p1) p2)) p3) (.ref a) (.ref s4.heap.objs.size)) (EP X pins σ Q) X.xe { s4 with heap := s4.heap.push { cls := .type "slice", data := .fields #[.none, .none, .int (-1) tk] } }
  refine tail_any (ops := [.ref a, .ref s4.heap.objs.size]) ht.typeIs (PyProof.Rows.slot_tuple_getitem.lookup) ?_ (by with_unfolding_all rfl)
  refine getItem_tuple_rev ht (Heap.IsSliceOf.new _ .none .none (.int (-1) tk)) ?_ (by rw [List.size_toArray]; omega)
  refine ⟨.ref _, _, I5.laid (t' := s4.toks) (o := .tup xs.reverse) (fun b ob q => Heap.get?_push_of_some _ q) (Nat.le_refl _) ?_, rfl, q _ (I5.hok.fresh (Nat.le_refl _))⟩
  exact ⟨by rw [List.length_reverse]; exact hz, _, r.reverse, ⟨_, Heap.get?_push_size _ rfl, rfl, _, rfl⟩⟩
end
end K11
/-! Pa -/
namespace K11
open PySem L2 Lad
abbrev sWhole : Stmt := topS 22
theorem scWhole : FnScope ["thing", "low"] ["thing", "low"] (defScope sWhole) := ⟨rfl, rfl, rfl, by decide +kernel, rfl, by decide +kernel, by decide +kernel⟩
def spWhole : Sp := fun vs H Q _ => ∃ i j : Int, vs = [.int i, .int j] ∧ Q (.bl (decide (j ≤ i))) H
theorem kit_int_int {K : PySem.W.Frag} : PySem.W.kitOne K (.type "int") (.type "int") = some true := kit_ty (by decide +kernel)
theorem kit_int_bool {K : PySem.W.Frag} : PySem.W.kitOne K (.type "int") (.type "bool") = some false := kit_ty (by decide +kernel)
theorem kit_tup_tup {K : PySem.W.Frag} : PySem.W.kitOne K (.type "tuple") (.type "tuple") = some true := kit_ty (by decide +kernel)
theorem kit_int_tup {K : PySem.W.Frag} : PySem.W.kitOne K (.type "int") (.type "tuple") = some false := kit_ty (by decide +kernel)
theorem kit_tup_int {K : PySem.W.Frag} : PySem.W.kitOne K (.type "tuple") (.type "int") = some false := kit_ty (by decide +kernel)
section
variable {P : Program} {w : World} {K : PySem.W.Frag} {mg : Str → Option Value} {base : Heap} {f : Addr} {fd : FuncData}
theorem ok_whole (F : Fun K "is_whole" "is_whole" sWhole f fd) (mi : mg "isinstance" = none) (mt : mg "int" = none) (mb : mg "bool" = none) : FnOk P w K mg base CX0 1 f fd ["thing", "low"] spWhole := by
  refine F.ok scWhole (fun vs H Q E h => ?_) (fun cdv A outer s H vs Q E hr h => ?_)
  · obtain ⟨i, j, rfl, _⟩ := h
    rfl
  obtain ⟨i, j, rfl, q⟩ := h
  refine ⟨_, pss_one (ps_ret (pe_and (pe_callB call_isi (by rfl) mi (by decide +kernel) (pa_cons (pv 0) (pa_cons (pe_bltn (v := .ty "int") (by rfl) mt (by decide +kernel) rfl) pa_nil)))
    (pe_and (pe_not (pe_callB call_isi (by rfl) mi (by decide +kernel) (pa_cons (pv 0) (pa_cons (pe_bltn (v := .ty "bool") (by rfl) mb (by decide +kernel) rfl) pa_nil))))
      (pe_one (pe_cmpR op_ge (pv 0) (pv 1) (nomark _)))))), ?_⟩
  refine ⟨_, rfl, _, _, _, _, true, rfl, .ty "int", .base (.int i), kit_int_int, true, rfl, iteT ?_⟩
  refine ⟨_, rfl, _, _, _, _, false, rfl, .ty "bool", .base (.int i), kit_int_bool, false, rfl, true, rfl, iteT ?_⟩
  exact ⟨_, rfl, _, rfl, _, _, rfl, rfl, q⟩
end
end K11
/-! Pb -/
namespace K11
open PySem L2 Lad
abbrev sLess : Stmt := topS 25
theorem scLess : FnScope ["one", "other", "mine", "theirs"] ["one", "other"] (defScope sLess) := ⟨rfl, rfl, rfl, by decide +kernel, rfl, by decide +kernel, by decide +kernel⟩
/-- is_less(one, other), one less than n deep -/
def spLess (K : PySem.W.Frag) (n : Nat) : Sp := fun vs H Q _ => ∃ (v v' : V) (l k : Lad), vs = [v, v'] ∧ LV K H v l ∧ LV K H v' k ∧ l.deep < n ∧ n ≤ 80 ∧ ∀ H', Same H H' → Q (.bl (lt l k)) H'
theorem get_drop {α : Type} {xs : List α} {i : Nat} {x : α} {zs : List α} (h : xs.drop i = x :: zs) : xs[i]? = some x ∧ xs.drop (i + 1) = zs := by
  have h1 : (xs.drop i)[0]? = some x := by rw [h]; rfl
  have h2 : (xs.drop i).drop 1 = zs := by rw [h]; rfl
  rw [List.getElem?_drop] at h1
  rw [List.drop_drop] at h2
  exact ⟨by simpa using h1, h2⟩
theorem drop_end {α : Type} {xs : List α} {i : Nat} (h : xs.drop i = []) : xs.length ≤ i := List.drop_eq_nil_iff.mp h
section
variable {P : Program} {w : World} {K : PySem.W.Frag} {mg : Str → Option Value} {base : Heap} {f : Addr} {fd : FuncData}
theorem less_step {n : Nat} (F : Fun K "is_less" "is_less" sLess f fd) (G : FnOk P w K mg base CX0 n f fd ["one", "other"] (spLess K n)) (bG : Binds K fd ["one", "other"] []) (mG : mg "is_less" = some (.ref f)) (mz : mg "zip" = none) (ml : mg "len" = none) :
    FnOk P w K mg base CX0 (n + 1) f fd ["one", "other"] (spLess K (n + 1)) := by
  refine F.ok scLess (fun vs H Q E h => ?_) (fun cdv A outer s H vs Q E hr h => ?_)
  · obtain ⟨v, v', l, k, rfl, _⟩ := h
    rfl
  obtain ⟨v, v', l, k, rfl, hl, hk, hd, hn, q⟩ := h
  refine ⟨_, pss_cons (ps_for PassesOwn.never rfl (RZ.pi_zipA (by rfl) mz (pa_cons (pv 0) (pa_cons (pv 1) pa_nil)))
      (pg_tup rfl (pgs_cons (pg_name (i := 2) scLess.nd rfl (.inl rfl)) (pgs_cons (pg_name (i := 3) scLess.nd rfl (.inl rfl)) pgs_nil)))
      (pss_cons (ps_if (pt_cmpR (op_neL hr) (pe_ix ix_tup (pv 2) pe_int (fun _ _ => rfl)) (pe_ix ix_tup (pv 3) pe_int (fun _ _ => rfl)) (nomark _))
          (pss_one (ps_ret (pe_call G hr rfl mG F.kp bG .nil pass0 (pa_cons (pe_ix ix_tup (pv 2) pe_int (fun _ _ => rfl)) (pa_cons (pe_ix ix_tup (pv 3) pe_int (fun _ _ => rfl)) pa_nil))))) pss_nil)
        (pss_one (ps_if (pt_cmpR op_ne (pe_ix ix_tup (pv 2) pe_int (fun _ _ => rfl)) (pe_ix ix_tup (pv 3) pe_int (fun _ _ => rfl)) (nomark _))
          (pss_one (ps_ret (pe_cmpR op_lt (pe_ix ix_tup (pv 2) pe_int (fun _ _ => rfl)) (pe_ix ix_tup (pv 3) pe_int (fun _ _ => rfl)) (nomark _)))) pss_nil))))
    (pss_one (ps_ret (pe_cmpR op_lt (pe_callB call_len_seq rfl ml PySem.boot_len (pa_cons (pv 0) pa_nil)) (pe_callB call_len_seq rfl ml PySem.boot_len (pa_cons (pv 1) pa_nil)) (nomark _)))), ?_⟩
  obtain ⟨a, xs, rfl, ha, hxs⟩ := hl
  obtain ⟨b, ys, rfl, hb, hys⟩ := hk
  refine ⟨_, rfl, _, rfl, a, b, xs, ys, rfl, .inr ⟨ha, hb, ?_⟩⟩
  refine ⟨fun i m σ H' => Same H H' ∧ ∃ (l' k' : Lad) (o2 o3 : Option V), σ = [some (.ref a), some (.ref b), o2, o3] ∧ m = l'.len ∧ LVs K H (xs.drop i) l' ∧ LVs K H (ys.drop i) k' ∧ lt l k = lt l' k' ∧ l'.deep < n + 1 ∧ xs.length = i + l'.len ∧ ys.length = i + k'.len,
    ⟨l.len, Same.refl H, l, k, none, none, rfl, rfl, hxs, hys, rfl, hd, by rw [hxs.len]; omega, by rw [hys.len]; omega⟩, ?_⟩
  rintro i m σ H1 ⟨S1, l', k', o2, o3, rfl, rfl, h1, h2, e, hd', z1, z2⟩
  have done : (l' = .nil ∨ k' = .nil) → lt l k = decide (((xs.length : Nat) : Int) < ((ys.length : Nat) : Int)) := by
    intro c
    rw [e, z1, z2]
    rcases c with rfl | rfl
    · cases k' with
      | nil => exact (decide_eq_false (by simp only [Lad.len]; omega)).symm
      | cons _ _ _ => exact (decide_eq_true (by simp only [Lad.len]; omega)).symm
    · cases l' with
      | nil => exact (decide_eq_false (by simp only [Lad.len]; omega)).symm
      | cons _ _ _ => exact (decide_eq_false (by simp only [Lad.len]; omega)).symm
  have fin : (l' = .nil ∨ k' = .nil) → ((RZ.ItzT K a b).stop i H1 ∧ tRet (tOp (rI0 fun i j => .bl (decide (i < j))) (tCB (fun xs H Q => ∃ p ys, xs = [.ref p] ∧ (SqL K H p ys ∨ SqT K H p ys) ∧ Q (.int ys.length) H) (tCons (tVar 0) tNil)) (tCB (fun xs H Q => ∃ p ys, xs = [.ref p] ∧ (SqL K H p ys ∨ SqT K H p ys) ∧ Q (.int ys.length) H) (tCons (tVar 1) tNil)))
      { nx := fun _ H' => Q .non H', rt := Q } [some (.ref a), some (.ref b), o2, o3] H1) := by
    intro c
    refine ⟨⟨xs, ys, SqT.same S1 ha, SqT.same S1 hb, ?_⟩, ?_⟩
    · rcases c with rfl | rfl
      · exact .inl (by rw [z1]; simp [Lad.len])
      · exact .inr (by rw [z2]; simp [Lad.len])
    · refine ⟨_, rfl, a, xs, rfl, .inr (SqT.same S1 ha), _, rfl, b, ys, rfl, .inr (SqT.same S1 hb), _, _, rfl, rfl, ?_⟩
      have := q H1 S1
      rw [done c] at this
      exact this
  cases l' with
  | nil => exact .inl (fin (.inl rfl))
  | cons e1 m1 r1 =>
    cases k' with
    | nil => exact .inl (fin (.inr rfl))
    | cons e2 m2 r2 =>
      obtain ⟨x, zs, hx, ⟨p1, v1, rfl, s1, t1⟩, g1⟩ := h1.uncons
      obtain ⟨y, ws, hy, ⟨p2, v2, rfl, s2, t2⟩, g2⟩ := h2.uncons
      obtain ⟨hx1, hx2⟩ := get_drop hx
      obtain ⟨hy1, hy2⟩ := get_drop hy
      refine .inr ⟨⟨xs, ys, _, _, SqT.same S1 ha, SqT.same S1 hb, hx1, hy1⟩, fun σ' H' => Same H H' ∧ ∃ o2 o3, σ' = [some (.ref a), some (.ref b), o2, o3] ∧ e1 = e2 ∧ m1 = m2, ?_, ?_⟩
      · rintro σ' H' ⟨S', o2', o3', rfl, rfl, rfl⟩
        refine ⟨r1.len, by simp [Lad.len], S', r1, r2, o2', o3', rfl, rfl, by rw [hx2]; exact g1, by rw [hy2]; exact g2, ?_, ?_, by rw [z1]; simp [Lad.len]; omega, by rw [z2]; simp [Lad.len]; omega⟩
        · rw [e, lt_cons]
          simp
        · exact Nat.lt_of_le_of_lt (Nat.le_max_right _ _) hd'
      · rintro v H2 ⟨T, x', y', rfl, hT, rfl, fx, fy⟩
        have ex : x' = .ref p1 := by
          have := fx xs (SqT.same S1 ha)
          rw [hx1] at this
          exact (Option.some.inj this).symm
        have ey : y' = .ref p2 := by
          have := fy ys (SqT.same S1 hb)
          rw [hy1] at this
          exact (Option.some.inj this).symm
        subst ex ey
        have S2 : Same H (upd H1 T (.tup [.ref p1, .ref p2])) := S1.trans (same_new hT _)
        have d1 : 1 + e1.deep < n + 1 := Nat.lt_of_le_of_lt (Nat.le_max_left _ _) hd'
        refine ⟨T, _, rfl, SqT.of upd_same, rfl, _, _, rfl, _, _, rfl, rfl, ?_⟩
        refine ⟨_, rfl, p1, _, _, _, rfl, rfl, SqT.same S2 s1, rfl, _, rfl, p2, _, _, _, rfl, rfl, SqT.same S2 s2, rfl, e1, e2, LV.gr (Same.gr S2) t1, LV.gr (Same.gr S2) t2, .inl (by omega), _, rfl, ?_⟩
        by_cases ee : e1 = e2
        · rw [decide_eq_true ee]
          refine iteF ?_
          refine ⟨_, rfl, p1, _, _, _, rfl, rfl, SqT.same S2 s1, rfl, _, rfl, p2, _, _, _, rfl, rfl, SqT.same S2 s2, rfl, rfl, _, rfl, ?_⟩
          by_cases em : m1 = m2
          · rw [decide_eq_true (show V.int m1 = V.int m2 by rw [em])]
            exact iteF ⟨S2, _, _, rfl, ee, em⟩
          · rw [decide_eq_false (show ¬ V.int m1 = V.int m2 from fun z => em (V.int.inj z))]
            refine iteT ⟨_, rfl, p1, _, _, _, rfl, rfl, SqT.same S2 s1, rfl, _, rfl, p2, _, _, _, rfl, rfl, SqT.same S2 s2, rfl, _, _, rfl, rfl, ?_⟩
            have := q _ S2
            rw [e, lt_cons, if_neg (by simp [ee]), if_pos em] at this
            exact this
        · rw [decide_eq_false ee]
          refine iteT ⟨_, rfl, p1, _, _, _, rfl, rfl, SqT.same S2 s1, rfl, _, rfl, p2, _, _, _, rfl, rfl, SqT.same S2 s2, rfl, v1, v2, e1, e2, rfl, LV.gr (Same.gr S2) t1, LV.gr (Same.gr S2) t2, by omega, by omega, fun H3 S3 => ?_⟩
          have := q _ (S2.trans S3)
          rw [e, lt_cons, if_pos ee] at this
          exact this
theorem less_none : FnOk P w K mg base CX0 0 f fd ["one", "other"] (spLess K 0) := by
  have no : ∀ vs H Q E, ¬ spLess K 0 vs H Q E := fun vs H Q E h => by
    obtain ⟨_, _, _, _, _, _, _, h1, _⟩ := h
    omega
  exact ⟨fun vs H Q E h => absurd h (no vs H Q E), fun A outer s H args us vs Q E _ _ _ _ h => absurd h (no vs H Q E)⟩
theorem ok_less (F : Fun K "is_less" "is_less" sLess f fd) (bG : Binds K fd ["one", "other"] []) (mG : mg "is_less" = some (.ref f)) (mz : mg "zip" = none) (ml : mg "len" = none) : ∀ n : Nat, FnOk P w K mg base CX0 n f fd ["one", "other"] (spLess K n)
  | 0 => less_none
  | n + 1 => less_step F (ok_less F bG mG mz ml n) bG mG mz ml
end
end K11
/-! Pc -/
namespace K11
open PySem L2 Lad
abbrev sPair : Stmt := topS 26
abbrev sIsLad : Stmt := topS 27
theorem scPair : FnScope ["thing"] ["thing"] (defScope sPair) := ⟨rfl, rfl, rfl, by decide +kernel, rfl, by decide +kernel, by decide +kernel⟩
theorem scIsLad : FnScope ["thing", "pair", "k"] ["thing"] (defScope sIsLad) := ⟨rfl, rfl, rfl, by decide +kernel, rfl, by decide +kernel, by decide +kernel⟩
def spPair (K : PySem.W.Frag) (n : Nat) : Sp := fun vs H Q _ => ∃ (v : V) (e : Lad) (m : Int), vs = [v] ∧ PV K H v e m ∧ e.deep < n ∧ n ≤ 80 ∧ e.parts ≤ 1000000 ∧ ∀ H', Same H H' → Q (.bl (flag (e, m))) H'
def spIsLad (K : PySem.W.Frag) (n : Nat) : Sp := fun vs H Q _ => ∃ (v : V) (l : Lad), vs = [v] ∧ LV K H v l ∧ l.deep < n ∧ n ≤ 80 ∧ l.parts ≤ 1000000 ∧ ∀ H', Same H H' → Q (.bl l.ok) H'
section
variable {P : Program} {w : World} {K : PySem.W.Frag} {mg : Str → Option Value} {base : Heap} {f g h : Addr} {fd gd hd : FuncData}
theorem ok_pair {n : Nat} (F : Fun K "is_pair" "is_pair" sPair f fd) (G : FnOk P w K mg base CX0 (2 * n) g gd ["thing"] (spIsLad K n)) (bG : Binds K gd ["thing"] []) (kG : PySem.W.keepIn K (.ref g) = true) (mG : mg "is_ladder" = some (.ref g))
    (GW : FnOk P w K mg base CX0 1 h hd ["thing", "low"] spWhole) (bW : Binds K hd ["thing", "low"] []) (kW : PySem.W.keepIn K (.ref h) = true) (mW : mg "is_whole" = some (.ref h))
    (mi : mg "isinstance" = none) (mt : mg "tuple" = none) (ml : mg "len" = none) : FnOk P w K mg base CX0 (2 * n + 1) f fd ["thing"] (spPair K n) := by
  refine F.ok scPair (fun vs H Q E h => ?_) (fun cdv A outer s H vs Q E hr h => ?_)
  · obtain ⟨v, e, m, rfl, _⟩ := h
    rfl
  obtain ⟨v, e, m, rfl, hp, hd, hn, hz, q⟩ := h
  have hrW : Room 1 _ := hr.mono (by omega)
  refine ⟨_, pss_one (ps_ret (pe_and (pe_callB call_isi (by rfl) mi (by decide +kernel) (pa_cons (pv 0) (pa_cons (pe_bltn (v := .ty "tuple") (by rfl) mt (by decide +kernel) rfl) pa_nil)))
    (pe_and (pe_cmpR op_eq (pe_callB call_len_seq rfl ml PySem.boot_len (pa_cons (pv 0) pa_nil)) pe_int (nomark _))
    (pe_and (pe_call G hr rfl mG kG bG .nil pass0 (pa_cons (pe_ix ix_tup (pv 0) pe_int (fun _ _ => rfl)) pa_nil))
    (pe_one (pe_call GW hrW rfl mW kW bW .nil pass0 (pa_cons (pe_ix ix_tup (pv 0) pe_int (fun _ _ => rfl)) (pa_cons pe_int pa_nil)))))))), ?_⟩
  obtain ⟨p, ve, rfl, s1, t1⟩ := hp
  refine ⟨_, rfl, _, _, _, _, true, rfl, .ty "tuple", ty_tup s1, kit_tup_tup, true, rfl, iteT ?_⟩
  refine ⟨_, rfl, p, _, rfl, .inr s1, rfl, true, rfl, iteT ?_⟩
  refine ⟨_, rfl, p, _, _, _, rfl, rfl, s1, rfl, ve, e, rfl, t1, hd, hn, hz, fun H1 S1 => ⟨_, rfl, ?_⟩⟩
  have q' := q H1 S1
  unfold flag at q'
  cases ho : e.ok with
  | false =>
    rw [ho] at q'
    exact iteF q'
  | true =>
    rw [ho] at q'
    exact iteT ⟨_, rfl, p, _, _, _, rfl, rfl, SqT.same S1 s1, rfl, m, 1, rfl, q'⟩
theorem isLad_step {n : Nat} (F : Fun K "is_ladder" "is_ladder" sIsLad f fd) (G : FnOk P w K mg base CX0 (2 * n + 1) g gd ["thing"] (spPair K n)) (bG : Binds K gd ["thing"] []) (kG : PySem.W.keepIn K (.ref g) = true) (mG : mg "is_pair" = some (.ref g))
    (GL : FnOk P w K mg base CX0 n h hd ["one", "other"] (spLess K n)) (bL : Binds K hd ["one", "other"] []) (kL : PySem.W.keepIn K (.ref h) = true) (mL : mg "is_less" = some (.ref h))
    (mi : mg "isinstance" = none) (mt : mg "tuple" = none) (ml : mg "len" = none) (ma : mg "all" = none) (mr : mg "range" = none) : FnOk P w K mg base CX0 (2 * n + 1 + 1) f fd ["thing"] (spIsLad K (n + 1)) := by
  refine F.ok scIsLad (fun vs H Q E h => ?_) (fun cdv A outer s H vs Q E hr h => ?_)
  · obtain ⟨v, l, rfl, _⟩ := h
    rfl
  obtain ⟨v, l, rfl, hl, hd, hn8, hz, q⟩ := h
  have hrL : Room n _ := hr.mono (by omega)
  refine ⟨_, pss_cons (ps_if (PW.pt (pw_or (pt_not (pt_val (pe_callB call_isi (by rfl) mi (by decide +kernel) (pa_cons (pv 0) (pa_cons (pe_bltn (v := .ty "tuple") (by rfl) mt (by decide +kernel) rfl) pa_nil)))))
      (pw_or1 (pt_not (pt_val (pe_callB (cr_all rfl) (by rfl) ma (by decide +kernel) (pa_cons (pe_lc (own := [("pair", 1)]) (g := gName 1) (tt := tYes) rfl scIsLad.nd (pi_tup (pv 0)) (blkOk_by (N := ["thing", "pair", "k"]) (sc := defScope sIsLad) (by decide +kernel))
        (fun _ _ _ _ _ => pg_name (i := 1) scIsLad.nd rfl (Or.inl rfl)) (fun _ _ _ _ _ => pts_nil) (fun _ _ _ _ _ => pe_call G hr rfl mG kG bG .nil pass0 (pa_cons (pv 1) pa_nil))) pa_nil)))))))
      (pss_one (ps_ret pe_bl)) pss_nil)
    (pss_one (ps_ret (pe_callB (cr_all rfl) (by rfl) ma (by decide +kernel) (pa_cons (pe_lc (own := [("k", 2)]) (g := gName 2) (tt := tYes) rfl scIsLad.nd (pi_range2 (by rfl) mr (pa_cons pe_int (pa_cons (pe_callB call_len_seq rfl ml PySem.boot_len (pa_cons (pv 0) pa_nil)) pa_nil)))
      (blkOk_by (N := ["thing", "pair", "k"]) (sc := defScope sIsLad) (by decide +kernel)) (fun _ _ _ _ _ => pg_name (i := 2) scIsLad.nd rfl (Or.inl rfl)) (fun _ _ _ _ _ => pts_nil)
      (fun _ _ _ _ _ => pe_call GL hrL rfl mL kL bL .nil pass0 (pa_cons (pe_ix (show IxR _ (rIxT K) from ix_tup) (pe_ix (show IxR _ (rIxT K) from ix_tup) (pv 0) (pv 2) (fun _ _ => rfl)) pe_int (fun _ _ => rfl)) (pa_cons (pe_ix (show IxR _ (rIxT K) from ix_tup) (pe_ix (show IxR _ (rIxT K) from ix_tup) (pv 0) (pe_op op_sub (pv 2) pe_int) (fun _ _ => rfl)) pe_int (fun _ _ => rfl)) pa_nil)))) pa_nil)))), ?_⟩
  obtain ⟨a, xs, rfl, ha, hxs⟩ := hl
  have hlen := hxs.len
  have hlp := len_parts l
  refine ⟨_, rfl, _, _, _, _, true, rfl, .ty "tuple", ty_tup ha, kit_tup_tup, true, rfl, iteF ?_⟩
  refine ⟨_, rfl, a, rfl, ⟨xs, ha⟩, fun D hD => ?_⟩
  refine lc_tupS hD ha (by omega) ((flags l).map V.bl) (by rw [List.length_map]; unfold flags; rw [List.length_map, toRows_len, hlen]) (fun i x y H' C hx hy S hC => ?_) (fun H1 S1 e1 => ?_)
  · obtain ⟨e, m, hrow, pvx⟩ := hxs.at hx
    have hra := row_at hrow
    have ey : y = V.bl (flag (e, m)) := by
      unfold flags at hy
      rw [List.map_map, List.getElem?_map, hrow] at hy
      exact (Option.some.inj hy).symm
    subst ey
    refine ⟨rfl, _, rfl, x, e, m, rfl, PV.gr (Same.gr S) pvx, by omega, by omega, by omega, hC⟩
  · refine ⟨D, flags l, rfl, SqL.of e1, _, rfl, ?_⟩
    cases hf : (flags l).all id with
    | false =>
      refine iteT ?_
      have := q H1 S1
      rw [ok_eq, hf] at this
      exact this
    | true =>
      refine iteF ?_
      refine ⟨_, rfl, a, xs, rfl, .inr (SqT.same S1 ha), 1, (xs.length : Nat), rfl, ⟨by decide, by decide, by omega, by omega⟩, fun D2 hD2 => ?_⟩
      have en : (((xs.length : Nat) : Int) - 1).toNat = l.len - 1 := by omega
      rw [en]
      refine lc_rangeS hD2 (by omega) ((steps l).map V.bl) (by unfold steps; rw [List.length_map, List.length_map, List.length_range]) (fun i y H' C hi hy S hC => ?_) (fun H2 S2 e2 => ?_)
      · obtain ⟨ea, ma', ra⟩ := row_lt (l := l) (i := i) (by omega)
        obtain ⟨eb, mb', rb⟩ := row_lt (l := l) (i := i + 1) (by omega)
        have ey : y = V.bl (lt eb ea) := by
          unfold steps at hy
          rw [List.map_map, List.getElem?_map, List.getElem?_range hi] at hy
          have := (Option.some.inj hy).symm
          rw [this]
          show V.bl (lt (ex l (i + 1)) (ex l i)) = _
          rw [ex_at ra, ex_at rb]
        subst ey
        have xa : xs[i]? = some xs[i] := List.getElem?_eq_getElem (by omega)
        have xb : xs[i + 1]? = some xs[i + 1] := List.getElem?_eq_getElem (by omega)
        obtain ⟨ea2, ma2, ra2, p1, v1, q1, s1, t1⟩ := hxs.at xa
        obtain ⟨eb2, mb2, rb2, p2, v2, q2, s2, t2⟩ := hxs.at xb
        rw [ra] at ra2
        rw [rb] at rb2
        cases ra2
        cases rb2
        have S' : Same H H' := S1.trans S
        have i1 : atI xs (1 + ((i : Nat) : Int)) = some (.ref p2) := at_of (j := i + 1) (by omega) (by rw [xb, q2])
        have i0 : atI xs (1 + ((i : Nat) : Int) - 1) = some (.ref p1) := at_of (j := i) (by omega) (by rw [xa, q1])
        have hrow := row_at rb
        refine ⟨rfl, _, rfl, _, rfl, a, xs, _, _, rfl, rfl, SqT.same S' ha, i1, p2, _, _, _, rfl, rfl, SqT.same S' s2, rfl, ?_⟩
        refine ⟨_, rfl, _, rfl, _, _, rfl, rfl, a, xs, _, _, rfl, rfl, SqT.same S' ha, i0, p1, _, _, _, rfl, rfl, SqT.same S' s1, rfl, v2, v1, eb, ea, rfl, LV.gr (Same.gr S') t2, LV.gr (Same.gr S') t1, by omega, by omega, hC⟩
      · refine ⟨D2, steps l, rfl, SqL.of e2, ?_⟩
        have := q H2 (S1.trans S2)
        rw [ok_eq, hf] at this
        exact this
theorem isLad_none {k : Nat} : FnOk P w K mg base CX0 k f fd ["thing"] (spIsLad K 0) := by
  have no : ∀ vs H Q E, ¬ spIsLad K 0 vs H Q E := fun vs H Q E h => by
    obtain ⟨_, _, _, _, h1, _⟩ := h
    omega
  exact ⟨fun vs H Q E h => absurd h (no vs H Q E), fun A outer s H args us vs Q E _ _ _ _ h => absurd h (no vs H Q E)⟩
end
end K11
/-! Pd -/
namespace K11
open PySem L2 Lad
abbrev sParts : Stmt := topS 28
abbrev sDeep : Stmt := topS 29
theorem scParts : FnScope ["ladder", "exponent", "many"] ["ladder"] (defScope sParts) := ⟨rfl, rfl, rfl, by decide +kernel, rfl, by decide +kernel, by decide +kernel⟩
theorem scDeep : FnScope ["ladder", "exponent", "many"] ["ladder"] (defScope sDeep) := ⟨rfl, rfl, rfl, by decide +kernel, rfl, by decide +kernel, by decide +kernel⟩
def spParts (K : PySem.W.Frag) (n : Nat) : Sp := fun vs H Q _ => ∃ (v : V) (l : Lad), vs = [v] ∧ LV K H v l ∧ l.deep < n ∧ l.parts ≤ 1000000 ∧ ∀ H', Same H H' → Q (.int l.parts) H'
def spDeep (K : PySem.W.Frag) (n : Nat) : Sp := fun vs H Q _ => ∃ (v : V) (l : Lad), vs = [v] ∧ LV K H v l ∧ l.deep < n ∧ l.parts ≤ 1000000 ∧ ∀ H', Same H H' → Q (.int l.deep) H'
theorem sum_cast {α : Type} (f : α → Nat) : ∀ l : List α, (l.map fun p => ((f p : Nat) : Int)).sum = ((l.map f).sum : Nat)
  | [] => rfl
  | a :: l => by
    rw [List.map_cons, List.sum_cons, List.map_cons, List.sum_cons, sum_cast f l]
    omega
theorem vmap {α : Type} (f : α → Int) (l : List α) : (l.map f).map V.int = l.map fun p => V.int (f p) := by
  rw [List.map_map]
  rfl
def pI (l : Lad) : List Int := (toRows l).map fun p => ((1 + p.1.parts : Nat) : Int)
def dI (l : Lad) : List Int := (toRows l).map fun p => ((1 + p.1.deep : Nat) : Int)
theorem pI_sum (l : Lad) : (pI l).sum = (l.parts : Nat) := by
  unfold pI
  rw [sum_cast, parts_rows]
theorem dI_max {l : Lad} {m : Int} (h1 : m ∈ 0 :: dI l) (h2 : ∀ y, y ∈ 0 :: dI l → y ≤ m) : m = (l.deep : Nat) := by
  obtain ⟨d1, d2⟩ := deep_rows l
  have up : m ≤ (l.deep : Nat) := by
    rcases List.mem_cons.mp h1 with rfl | h1
    · omega
    · unfold dI at h1
      obtain ⟨p, hp, rfl⟩ := List.mem_map.mp h1
      have := d1 p hp
      omega
  have lo : ((l.deep : Nat) : Int) ≤ m := by
    by_cases hn : l = .nil
    · subst hn
      exact h2 0 List.mem_cons_self
    · obtain ⟨p, hp, e⟩ := d2 hn
      have := h2 ((1 + p.1.deep : Nat) : Int) (List.mem_cons_of_mem _ (List.mem_map.mpr ⟨p, hp, rfl⟩))
      omega
  omega
section
variable {P : Program} {w : World} {K : PySem.W.Frag} {mg : Str → Option Value} {base : Heap} {f : Addr} {fd : FuncData}
theorem parts_step {n : Nat} (F : Fun K "parts" "parts" sParts f fd) (G : FnOk P w K mg base CX0 n f fd ["ladder"] (spParts K n)) (bG : Binds K fd ["ladder"] []) (mG : mg "parts" = some (.ref f)) (ms : mg "sum" = none) :
    FnOk P w K mg base CX0 (n + 1) f fd ["ladder"] (spParts K (n + 1)) := by
  refine F.ok scParts (fun vs H Q E h => ?_) (fun cdv A outer s H vs Q E hr h => ?_)
  · obtain ⟨v, l, rfl, _⟩ := h
    rfl
  obtain ⟨v, l, rfl, hl, hd, hz, q⟩ := h
  refine ⟨_, pss_one (ps_ret (pe_callB (cr_sum rfl) (by rfl) ms (by decide +kernel) (pa_cons (pe_lc (own := [("exponent", 1), ("many", 2)]) (g := gTup K 2 (gCons (gName 1) (gCons (gName 2) gNil))) (tt := tYes) rfl scParts.nd (pi_tup (pv 0))
    (blkOk_by (N := ["ladder", "exponent", "many"]) (sc := defScope sParts) (by decide +kernel))
    (fun _ _ _ _ _ => pg_tup rfl (pgs_cons (pg_name (i := 1) scParts.nd rfl (Or.inl rfl)) (pgs_cons (pg_name (i := 2) scParts.nd rfl (Or.inl rfl)) pgs_nil))) (fun _ _ _ _ _ => pts_nil)
    (fun _ _ _ _ _ => pe_op op_add pe_int (pe_call G hr rfl mG F.kp bG .nil pass0 (pa_cons (pv 1) pa_nil)))) pa_nil))), ?_⟩
  obtain ⟨a, xs, rfl, ha, hxs⟩ := hl
  have hlen := hxs.len
  have hlp := len_parts l
  refine ⟨_, rfl, a, rfl, ⟨xs, ha⟩, fun D hD => ?_⟩
  refine lc_tupS hD ha (by omega) ((pI l).map V.int) (by unfold pI; rw [List.length_map, List.length_map, toRows_len, hlen]) (fun i x y H' C hx hy S hC => ?_) (fun H1 S1 e1 => ?_)
  · obtain ⟨e, m, hrow, p, ve, rfl, s1, t1⟩ := hxs.at hx
    have hra := row_at hrow
    have ey : y = V.int ((1 + e.parts : Nat) : Int) := by
      unfold pI at hy
      rw [List.map_map, List.getElem?_map, hrow] at hy
      exact (Option.some.inj hy).symm
    subst ey
    refine ⟨p, _, rfl, SqT.same S s1, rfl, _, _, rfl, _, _, rfl, rfl, rfl, ?_⟩
    refine ⟨_, rfl, ve, e, rfl, LV.gr (Same.gr S) t1, by omega, by omega, fun H3 S3 => ⟨_, _, rfl, rfl, ?_⟩⟩
    have := hC H3 S3
    rw [show ((1 + e.parts : Nat) : Int) = 1 + (e.parts : Nat) by omega] at this
    exact this
  · refine ⟨D, pI l, rfl, SqL.of e1, ?_⟩
    rw [pI_sum]
    exact q H1 S1
theorem parts_none {k : Nat} : FnOk P w K mg base CX0 k f fd ["ladder"] (spParts K 0) := by
  have no : ∀ vs H Q E, ¬ spParts K 0 vs H Q E := fun vs H Q E h => by
    obtain ⟨_, _, _, _, h1, _⟩ := h
    omega
  exact ⟨fun vs H Q E h => absurd h (no vs H Q E), fun A outer s H args us vs Q E _ _ _ _ h => absurd h (no vs H Q E)⟩
theorem ok_parts (F : Fun K "parts" "parts" sParts f fd) (bG : Binds K fd ["ladder"] []) (mG : mg "parts" = some (.ref f)) (ms : mg "sum" = none) : ∀ n : Nat, FnOk P w K mg base CX0 n f fd ["ladder"] (spParts K n)
  | 0 => parts_none
  | n + 1 => parts_step F (ok_parts F bG mG ms n) bG mG ms
theorem deep_step {n : Nat} (F : Fun K "deep" "deep" sDeep f fd) (G : FnOk P w K mg base CX0 n f fd ["ladder"] (spDeep K n)) (bG : Binds K fd ["ladder"] []) (mG : mg "deep" = some (.ref f)) (ms : mg "max" = none) :
    FnOk P w K mg base CX0 (n + 1) f fd ["ladder"] (spDeep K (n + 1)) := by
  refine F.ok scDeep (fun vs H Q E h => ?_) (fun cdv A outer s H vs Q E hr h => ?_)
  · obtain ⟨v, l, rfl, _⟩ := h
    rfl
  obtain ⟨v, l, rfl, hl, hd, hz, q⟩ := h
  refine ⟨_, pss_one (ps_ret (pe_callB (cr_max rfl) (by rfl) ms (by decide +kernel) (pa_cons (pe_op op_cat (pe_lst (pa_cons pe_int pa_nil)) (pe_lc (own := [("exponent", 1), ("many", 2)]) (g := gTup K 2 (gCons (gName 1) (gCons (gName 2) gNil))) (tt := tYes) rfl scDeep.nd (pi_tup (pv 0))
    (blkOk_by (N := ["ladder", "exponent", "many"]) (sc := defScope sDeep) (by decide +kernel))
    (fun _ _ _ _ _ => pg_tup rfl (pgs_cons (pg_name (i := 1) scDeep.nd rfl (Or.inl rfl)) (pgs_cons (pg_name (i := 2) scDeep.nd rfl (Or.inl rfl)) pgs_nil))) (fun _ _ _ _ _ => pts_nil)
    (fun _ _ _ _ _ => pe_op op_add pe_int (pe_call G hr rfl mG F.kp bG .nil pass0 (pa_cons (pv 1) pa_nil))))) pa_nil))), ?_⟩
  obtain ⟨a, xs, rfl, ha, hxs⟩ := hl
  have hlen := hxs.len
  have hlp := len_parts l
  have big : (1000002 : Nat) < sizeLine := by decide
  refine ⟨by show 1 ≤ sizeLine; decide, fun Z hZ => ?_⟩
  have S0 : Same H (upd H Z (.lst [.int 0])) := same_new hZ _
  refine ⟨_, rfl, a, rfl, ⟨xs, SqT.same S0 ha⟩, fun D hD => ?_⟩
  refine lc_tupS hD (SqT.same S0 ha) (by omega) ((dI l).map V.int) (by unfold dI; rw [List.length_map, List.length_map, toRows_len, hlen]) (fun i x y H' C hx hy S hC => ?_) (fun H1 S1 e1 => ?_)
  · obtain ⟨e, m, hrow, p, ve, rfl, s1, t1⟩ := hxs.at hx
    have hra := row_at hrow
    have ey : y = V.int ((1 + e.deep : Nat) : Int) := by
      unfold dI at hy
      rw [List.map_map, List.getElem?_map, hrow] at hy
      exact (Option.some.inj hy).symm
    subst ey
    have S' := S0.trans S
    refine ⟨p, _, rfl, SqT.same S' s1, rfl, _, _, rfl, _, _, rfl, rfl, rfl, ?_⟩
    refine ⟨_, rfl, ve, e, rfl, LV.gr (Same.gr S') t1, by omega, by omega, fun H3 S3 => ⟨_, _, rfl, rfl, ?_⟩⟩
    have := hC H3 S3
    rw [show ((1 + e.deep : Nat) : Int) = 1 + (e.deep : Nat) by omega] at this
    exact this
  · have hl1 : ((dI l).map V.int).length = l.len := by unfold dI; rw [List.length_map, List.length_map, toRows_len]
    refine ⟨Z, D, [.int 0], _, rfl, rfl, S1 _ _ upd_same, e1, ?_, fun p hp => ?_⟩
    · rw [hl1]
      show 1 + l.len ≤ sizeLine
      omega
    · refine ⟨p, 0 :: dI l, rfl, SqL.of upd_same, by simp, fun m h1 h2 => ?_⟩
      rw [dI_max h1 h2]
      exact q _ ((S0.trans S1).trans (same_new hp _))
theorem deep_none {k : Nat} : FnOk P w K mg base CX0 k f fd ["ladder"] (spDeep K 0) := by
  have no : ∀ vs H Q E, ¬ spDeep K 0 vs H Q E := fun vs H Q E h => by
    obtain ⟨_, _, _, _, h1, _⟩ := h
    omega
  exact ⟨fun vs H Q E h => absurd h (no vs H Q E), fun A outer s H args us vs Q E _ _ _ _ h => absurd h (no vs H Q E)⟩
theorem ok_deep (F : Fun K "deep" "deep" sDeep f fd) (bG : Binds K fd ["ladder"] []) (mG : mg "deep" = some (.ref f)) (ms : mg "max" = none) : ∀ n : Nat, FnOk P w K mg base CX0 n f fd ["ladder"] (spDeep K n)
  | 0 => deep_none
  | n + 1 => deep_step F (ok_deep F bG mG ms n) bG mG ms
end
end K11
/-! Pe -/
namespace K11
open PySem L2 Lad
abbrev sShowP : Stmt := topS 35
abbrev sShow : Stmt := topS 36
theorem scShowP : FnScope ["exponent", "many", "text"] ["exponent", "many"] (defScope sShowP) := ⟨rfl, rfl, rfl, by decide +kernel, rfl, by decide +kernel, by decide +kernel⟩
theorem scShow : FnScope ["ladder", "exponent", "many"] ["ladder"] (defScope sShow) := ⟨rfl, rfl, rfl, by decide +kernel, rfl, by decide +kernel, by decide +kernel⟩
def spShowP (K : PySem.W.Frag) (n : Nat) : Sp := fun vs H Q _ => ∃ (v : V) (e : Lad) (m : Int), vs = [v, .int m] ∧ LV K H v e ∧ e.deep < n ∧ n ≤ 80 ∧ gd 61 e ∧ (1 ≤ m ∧ m < 10 ^ 61) ∧ e.parts ≤ 100000 ∧ ∀ H', Same H H' → Q (T (showPair e (shows e) m)) H'
def spShow (K : PySem.W.Frag) (n : Nat) : Sp := fun vs H Q _ => ∃ (v : V) (l : Lad), vs = [v] ∧ LV K H v l ∧ l.deep < n ∧ n ≤ 80 ∧ gd 61 l ∧ l.parts ≤ 100000 ∧ ∀ H', Same H H' → Q (T (sh l)) H'
theorem dig_len61 {m : Int} (h1 : 1 ≤ m) (h2 : m < 10 ^ 61) : (dig m.toNat).length ≤ 61 := dig_len (by omega) (by decide)
theorem shows_len61 {l : Lad} (g : gd 61 l) (hp : l.parts ≤ 100000) : (shows l).length ≤ 6600000 := by
  have := len_sh (w := 61) (by decide) l g
  omega
theorem sh_len61 {l : Lad} (g : gd 61 l) (hp : l.parts ≤ 100000) : (sh l).length ≤ 6600000 := by
  unfold sh
  split
  · simp
  · exact shows_len61 g hp
section
variable {P : Program} {w : World} {K : PySem.W.Frag} {mg : Str → Option Value} {base : Heap} {f g : Addr} {fd gd' : FuncData} {oa : Addr}
theorem ok_showP {n : Nat} (hn : 1 ≤ n) (F : Fun K "show_pair" "show_pair" sShowP f fd) (G : FnOk P w K mg base CX0 (2 * n) g gd' ["ladder"] (spShow K n)) (bG : Binds K gd' ["ladder"] []) (kG : PySem.W.keepIn K (.ref g) = true) (mG : mg "show_ladder" = some (.ref g))
    (mO : mg "ONE" = some (.ref oa)) (hO : ∀ H, LV K H (.ref oa) one) (ms : mg "str" = none) : FnOk P w K mg base CX0 (2 * n + 1) f fd ["exponent", "many"] (spShowP K n) := by
  refine F.ok scShowP (fun vs H Q E h => ?_) (fun cdv A outer s H vs Q E hr h => ?_)
  · obtain ⟨v, e, m, rfl, _⟩ := h
    rfl
  obtain ⟨v, e, m, rfl, hv, hd, hn8, ge, ⟨m1, m2⟩, hp, q⟩ := h
  refine ⟨_, pss_cons (ps_if (pt_cmpR (op_eqL hr) (pv 0) (pe_tup pa_nil) (nomark _)) (pss_one (ps_ret (pe_callTy call_str_int (by rfl) ms (by decide +kernel) (pa_cons (pv 1) pa_nil)))) pss_nil)
    (pss_cons (ps_set (i := 2) scShowP.nd rfl (.inl rfl) pe_str)
    (pss_cons (ps_if (pt_cmpR (op_neL hr) (pv 0) (pe_glob (v := .ref oa) (by rfl) mO rfl) (nomark _)) (pss_one (ps_set (i := 2) scShowP.nd rfl (.inl rfl) (pe_op op_add_str (pe_op op_add_str pe_str (pe_call G hr (by rfl) mG kG bG .nil pass0 (pa_cons (pv 0) pa_nil))) pe_str))) pss_nil)
    (pss_cons (ps_if (pt_cmpR op_ne (pv 1) pe_int (nomark _)) (pss_one (ps_set (i := 2) scShowP.nd rfl (.inl rfl) (pe_op op_add_str (pe_op op_add_str (pv 2) pe_str) (pe_callTy call_str_int (by rfl) ms (by decide +kernel) (pa_cons (pv 1) pa_nil))))) pss_nil)
    (pss_one (ps_ret (pv 2)))))), ?_⟩
  have hl := shows_len61 ge hp
  have hdg := dig_len61 m1 m2
  have big := big16
  have hsn : Str.ofString (toString m) = S (dig m.toNat) := S_num (by omega)
  refine ⟨_, rfl, by show 0 ≤ sizeLine; omega, fun p0 hp0 => ?_⟩
  have S0 : Same H (upd H p0 (.tup [])) := same_new hp0 _
  refine ⟨e, .nil, LV.gr (Same.gr S0) hv, LV.nil (SqT.of upd_same), .inr (Nat.zero_le _), _, rfl, ?_⟩
  unfold showPair at q
  by_cases he : e = .nil
  · rw [decide_eq_true he]
    refine iteT ⟨_, rfl, m, rfl, log_ok m1 m2, ?_⟩
    have := q _ S0
    rw [if_pos he] at this
    show Q (.str (Str.ofString (toString m))) _
    rw [hsn]
    exact this
  · rw [decide_eq_false he]
    refine iteF ?_
    rw [if_neg he] at q
    refine ⟨_, rfl, e, one, LV.gr (Same.gr S0) hv, hO _, .inl (by omega), _, rfl, ?_⟩
    have tail : ∀ (t1 : List Nat) (H1 : Hp), Same H H1 → t1.length ≤ 7000000 → (∀ H', Same H H' → Q (T (t1 ++ (if m = 1 then [] else 42 :: dig m.toNat))) H') →
        tSeq (tIfS (tTest (tOp rNe (tVar 1) (tC (.int 1)))) (tAsg (tOp (fun x y H Q => ∃ i j, x = .str i ∧ y = .str j ∧ i.length + j.length ≤ sizeLine ∧ Q (.str (i ++ j)) H) (tOp (fun x y H Q => ∃ i j, x = .str i ∧ y = .str j ∧ i.length + j.length ≤ sizeLine ∧ Q (.str (i ++ j)) H) (tVar 2) (tC (.str "*")))
          (tCB (fun xs H Q => ∃ i, xs = [.int i] ∧ i.natAbs.log2 < 1920 ∧ Q (.str (toString i)) H) (tCons (tVar 1) tNil))) (gName 2)) tNext) (tRet (tVar 2)) { nx := fun _ H' => Q .non H', rt := Q } [some v, some (.int m), some (T t1)] H1 := by
      intro t1 H1 S1 hlen q1
      refine ⟨_, rfl, rfl, _, rfl, ?_⟩
      by_cases hm : m = 1
      · rw [decide_eq_true (show V.int m = V.int 1 by rw [hm])]
        refine iteF ⟨_, rfl, ?_⟩
        have := q1 H1 S1
        rw [if_pos hm, List.append_nil] at this
        exact this
      · rw [decide_eq_false (show ¬ V.int m = V.int 1 from fun z => hm (V.int.inj z))]
        refine iteT ⟨_, rfl, S t1, "*", rfl, rfl, ?_, _, rfl, m, rfl, log_ok m1 m2, _, _, rfl, rfl, ?_, _, rfl, ?_⟩
        · rw [lit_star, S_len, S_len]
          simp only [List.length_cons, List.length_nil]
          omega
        · show (S t1 ++ ("*" : Str)).length + (Str.ofString (toString m)).length ≤ _
          rw [hsn, lit_star, S_app, S_len, S_len]
          simp only [List.length_append, List.length_cons, List.length_nil]
          omega
        · have := q1 H1 S1
          rw [if_neg hm] at this
          show Q (.str (S t1 ++ ("*" : Str) ++ Str.ofString (toString m))) H1
          rw [hsn, lit_star, S_app, S_app, List.append_assoc]
          exact this
    by_cases ho : e = one
    · rw [decide_eq_true ho]
      refine iteF ?_
      rw [if_pos ho] at q
      rw [lit_z]
      exact tail [122] _ S0 (by simp) (fun H' S' => q H' S')
    · rw [decide_eq_false ho]
      rw [if_neg ho] at q
      refine iteT ⟨_, rfl, v, e, rfl, LV.gr (Same.gr S0) hv, hd, hn8, ge, hp, fun H1 S1 => ⟨_, _, rfl, rfl, ?_, _, _, rfl, rfl, ?_, ?_⟩⟩
      · rw [lit_zb, S_len, S_len, sh_shows he]
        simp only [List.length_cons, List.length_nil]
        omega
      · rw [lit_zb, lit_c, S_app, S_len, S_len, sh_shows he]
        simp only [List.length_append, List.length_cons, List.length_nil]
        omega
      · have e1 : (("z[" : Str) ++ S (sh e) ++ ("]" : Str)) = S ([122, 91] ++ shows e ++ [93]) := by rw [lit_zb, lit_c, S_app, S_app, sh_shows he]
        rw [e1]
        refine tail _ _ (S0.trans S1) ?_ (fun H' S' => ?_)
        · simp only [List.length_append, List.length_cons, List.length_nil]
          omega
        · have := q H' S'
          simp only [List.cons_append, List.nil_append, List.append_assoc] at this ⊢
          exact this
theorem show_step {n : Nat} (F : Fun K "show_ladder" "show_ladder" sShow f fd) (G : FnOk P w K mg base CX0 (2 * n + 1) g gd' ["exponent", "many"] (spShowP K n)) (bG : Binds K gd' ["exponent", "many"] []) (kG : PySem.W.keepIn K (.ref g) = true) (mG : mg "show_pair" = some (.ref g)) :
    FnOk P w K mg base CX0 (2 * n + 1 + 1) f fd ["ladder"] (spShow K (n + 1)) := by
  refine F.ok scShow (fun vs H Q E h => ?_) (fun cdv A outer s H vs Q E hr h => ?_)
  · obtain ⟨v, l, rfl, _⟩ := h
    rfl
  obtain ⟨v, l, rfl, hv, hd, hn8, g1, hp, q⟩ := h
  refine ⟨_, pss_cons (ps_if (pt_cmpR (op_eqL hr) (pv 0) (pe_tup pa_nil) (nomark _)) (pss_one (ps_ret pe_str)) pss_nil)
    (pss_one (ps_ret (pe_join pe_str (pe_lc (own := [("exponent", 1), ("many", 2)]) (g := gTup K 2 (gCons (gName 1) (gCons (gName 2) gNil))) (tt := tYes) rfl scShow.nd (pi_tup (pv 0))
      (blkOk_by (N := ["ladder", "exponent", "many"]) (sc := defScope sShow) (by decide +kernel))
      (fun _ _ _ _ _ => pg_tup rfl (pgs_cons (pg_name (i := 1) scShow.nd rfl (Or.inl rfl)) (pgs_cons (pg_name (i := 2) scShow.nd rfl (Or.inl rfl)) pgs_nil))) (fun _ _ _ _ _ => pts_nil)
      (fun _ _ _ _ _ => pe_call G hr rfl mG kG bG .nil pass0 (pa_cons (pv 1) (pa_cons (pv 2) pa_nil))))))), ?_⟩
  refine ⟨_, rfl, by show 0 ≤ sizeLine; decide, fun p0 hp0 => ?_⟩
  have S0 : Same H (upd H p0 (.tup [])) := same_new hp0 _
  refine ⟨l, .nil, LV.gr (Same.gr S0) hv, LV.nil (SqT.of upd_same), .inr (Nat.zero_le _), _, rfl, ?_⟩
  by_cases hl : l = .nil
  · rw [decide_eq_true hl]
    refine iteT ?_
    have := q _ S0
    rw [hl] at this
    rw [lit_0]
    exact this
  · rw [decide_eq_false hl]
    refine iteF ?_
    have hlenS := shows_len61 g1 hp
    obtain ⟨a, xs, rfl, ha, hxs⟩ := hv
    have hlen := hxs.len
    have hlp := len_parts l
    refine ⟨⟨_, rfl⟩, _, rfl, a, rfl, ⟨xs, SqT.same S0 ha⟩, fun D hD => ?_⟩
    have hD0 : H D = none := S0.free hD
    refine lc_tupS hD (SqT.same S0 ha) (by omega) (((txts l).map S).map V.str) (by unfold txts; rw [List.length_map, List.length_map, List.length_map, toRows_len, hlen]) (fun i x y H' C hx hy S' hC => ?_) (fun H1 S1 e1 => ?_)
    · obtain ⟨e, m, hrow, p, ve, rfl, s1, t1⟩ := hxs.at hx
      have hra := row_at hrow
      have hg := row_gd g1 hrow
      have ey : y = T (showPair e (shows e) m) := by
        unfold txts at hy
        rw [List.map_map, List.map_map, List.getElem?_map, hrow] at hy
        exact (Option.some.inj hy).symm
      subst ey
      have SS := S0.trans S'
      exact ⟨p, _, rfl, SqT.same SS s1, rfl, _, _, rfl, _, _, rfl, rfl, rfl, _, rfl, _, rfl, ve, e, m, rfl, LV.gr (Same.gr SS) t1, by omega, by omega, hg.1, hg.2, by omega, hC⟩
    · refine ⟨_, D, (txts l).map S, rfl, rfl, .inl (SqL.of e1), ?_, ?_⟩
      · have := txts_len l
        have e2 : (((txts l).map S).map (·.length)).sum = ((txts l).map List.length).sum := by
          rw [List.map_map]
          congr 1
        have e3 : (("+" : Str)).length = 1 := by rw [lit_plus, S_len]; rfl
        rw [e2, e3, List.length_map]
        omega
      · have e4 : Txt.join ("+" : Str) ((txts l).map S) = S (shows l) := by rw [lit_plus, S_join]
        show Q (.str (Txt.join ("+" : Str) ((txts l).map S))) H1
        rw [e4]
        have := q H1 (S0.trans S1)
        rw [sh_shows hl] at this
        exact this
theorem show_none {k : Nat} : FnOk P w K mg base CX0 k f fd ["ladder"] (spShow K 0) := by
  have no : ∀ vs H Q E, ¬ spShow K 0 vs H Q E := fun vs H Q E h => by
    obtain ⟨_, _, _, _, h1, _⟩ := h
    omega
  exact ⟨fun vs H Q E h => absurd h (no vs H Q E), fun A outer s H args us vs Q E _ _ _ _ h => absurd h (no vs H Q E)⟩
end
end K11
/-! Pf -/
namespace K11
open PySem L2 Lad
theorem PS.nox' {X : Cx} {st : Stmt} {t : TS} (h : PS X.nox st t) : PS X st t := ⟨fun pins s σ H D I hw =>
  wpAny_mono (h.run pins s σ H D (I.wish _) hw) (fun _ _ q => q.unwish) fun _ _ z => False.elim z⟩
/-- the class of the error -/
structure ErrT (K : PySem.W.Frag) (mg : Str → Option Value) (C : Addr) : Prop where
  g : mg "NoLadder" = some (.ref C)
  x : PySem.W.excIn K C [.type "ValueError", .type "Exception", .type "BaseException", .type "object"] "ValueError.__new__" = true
  k : PySem.W.keepIn K (.ref C) = true
  b : PySem.W.subIn K (.ref C) (.type "BaseException") = some true
  t : PySem.W.typeIn K (.ref C) = some (.type "type")
abbrev sMany : Stmt := topS 37
theorem scMany : FnScope ["text", "at", "end"] ["text", "at"] (defScope sMany) := ⟨rfl, rfl, rfl, by decide +kernel, rfl, by decide +kernel, by decide +kernel⟩
/-- many_at(text, at) -/
def spMany (C : Addr) : Sp := fun vs H Q E => ∃ (t : List Nat) (a : Nat), vs = [T t, .int a] ∧ t.length ≤ 100000 ∧ a ≤ t.length ∧
  (pNum 60 (t.drop a) = none → ∀ H', Same H H' → E (.ref C) none H') ∧
  ∀ m r, pNum 60 (t.drop a) = some (m, r) → ∀ p H', Same H H' → H' p = some (.tup [.int m, .int ((t.length - r.length : Nat))]) → Q (.ref p) H'
theorem mem_figs (c : Nat) : decide (c ∈ ("0123456789" : Str).cps.toList) = isFig c := by
  have e : ("0123456789" : Str).cps.toList = [48, 49, 50, 51, 52, 53, 54, 55, 56, 57] := by decide +kernel
  rw [e]
  unfold isFig
  by_cases h : 48 ≤ c ∧ c ≤ 57
  · rw [decide_eq_true h.1, decide_eq_true h.2]
    refine decide_eq_true ?_
    simp only [List.mem_cons, List.not_mem_nil, or_false]
    omega
  · rw [decide_eq_false (by simp only [List.mem_cons, List.not_mem_nil, or_false]; omega)]
    by_cases h1 : 48 ≤ c
    · rw [decide_eq_true h1, decide_eq_false (by omega)]; rfl
    · rw [decide_eq_false h1]; rfl
/-- the figures end just where none follows -/
theorem fig_next {t : List Nat} {k c : Nat} (hk : k ≤ (t.takeWhile isFig).length) (h : t[k]? = some c) : isFig c = decide (k < (t.takeWhile isFig).length) := by
  induction t generalizing k with
  | nil => cases h
  | cons a t ih =>
    rw [List.takeWhile_cons] at hk ⊢
    cases ha : isFig a with
    | false =>
      rw [ha, if_neg (by decide)] at hk
      have k0 : k = 0 := by simpa using hk
      subst k0
      cases h
      rw [ha]
      simp
    | true =>
      rw [ha, if_pos rfl] at hk
      rw [if_pos rfl]
      cases k with
      | zero =>
        cases h
        rw [ha]
        simp
      | succ k =>
        have := ih (k := k) (by simpa using hk) h
        rw [this]
        simp
theorem take_tw (t : List Nat) : t.take (t.takeWhile isFig).length = t.takeWhile isFig := by
  have := List.takeWhile_append_dropWhile (p := isFig) (l := t)
  conv => lhs; rhs; rw [← this]
  rw [List.take_left]
theorem drop_tw (t : List Nat) : (t.takeWhile isFig).length + (t.dropWhile isFig).length = t.length := by
  rw [← List.length_append, List.takeWhile_append_dropWhile]
theorem int_read {t : List Nat} (h : ∀ c ∈ t, isFig c = true) (hn : t ≠ []) (hl : t.length ≤ 640) : PySem.intText? (S t) = some ((val t : Nat) : Int) := by
  have hd : PySem.NumText.AllDigits (S t).cps.toList := fun c hc => by
    have := h c hc
    unfold isFig at this
    simp only [Bool.and_eq_true, decide_eq_true_eq] at this
    exact this
  exact PySem.intText_digits hd hn (by rw [S_len]; omega)
section
variable {P : Program} {w : World} {K : PySem.W.Frag} {mg : Str → Option Value} {base : Heap} {f : Addr} {fd : FuncData} {C : Addr} {uF uM : Value}
theorem ok_many (F : Fun K "many_at" "many_at" sMany f fd) (X : ErrT K mg C) (ml : mg "len" = none) (mi : mg "int" = none) (mF : mg "FIGURES" = some uF) (rF : RelV (.str "0123456789") uF) (mM : mg "MOST_FIGURES" = some uM) (rM : RelV (.int 60) uM) :
    FnOk P w K mg base (L2.CX P w) 1 f fd ["text", "at"] (spMany C) := by
  refine F.okX scMany (fun vs H Q E h => ?_) (fun cdv A outer s H vs Q E hr h => ?_)
  · obtain ⟨t, a, rfl, _⟩ := h
    rfl
  obtain ⟨t, a, rfl, hl, ha, qN, qS⟩ := h
  refine ⟨_, pss_cons (ps_set (i := 2) scMany.nd rfl (.inl rfl) (pv 1))
    (pss_cons (PS.nox' (ps_while PassesOwn.never (PW.pt (pw_and (pt_cmpR op_lt (pv 2) (pe_callB call_len_str rfl ml PySem.boot_len (pa_cons (pv 0) pa_nil)) (nomark _)) (pw_and1 (pt_cmpR op_in_sign (pe_item_str (pv 0) (pv 2) (fun _ _ => rfl)) (pe_glob (by rfl) mF rF) rfl))))
      (pss_one (ps_set (i := 2) scMany.nd rfl (.inl rfl) (pe_op op_add (pv 2) pe_int)))))
    (pss_cons (ps_if (PW.pt (pw_or (pt_cmpR op_eq (pv 2) (pv 1) (nomark _)) (pw_or1 (pt_cmpR op_gt (pe_op op_sub (pv 2) (pv 1)) (pe_glob (by rfl) mM rM) (nomark _)))))
      (pss_one (ps_raise rfl (takes_of rfl rfl rfl rfl) (pmk_own PySem.F.excBase_ValueError X.x X.g X.k (raises_own X.b X.t) rfl))) pss_nil)
    (pss_one (ps_ret (pe_tup (pa_cons (pe_callTy call_int_str (by rfl) mi (by decide +kernel) (pa_cons (pe_slice sl_str (pv 0) (po_some (pv 1)) (po_some (pv 2))) pa_nil)) (pa_cons (pv 2) pa_nil))))))), ?_⟩
  have hd := drop_tw (t.drop a)
  rw [List.length_drop] at hd
  have big := big16
  refine ⟨_, rfl, ?_⟩
  refine ⟨fun m σ H1 => H1 = H ∧ ∃ k, σ = [some (T t), some (.int a), some (.int ((a + k : Nat)))] ∧ k ≤ ((t.drop a).takeWhile isFig).length ∧ m = ((t.drop a).takeWhile isFig).length - k, ⟨_, rfl, 0, rfl, Nat.zero_le _, rfl⟩, ?_⟩
  rintro m σ H1 ⟨rfl, k, rfl, hk, rfl⟩
  -- behind the loop
  have fin : k = ((t.drop a).takeWhile isFig).length → tSeq (tIfS (tOr (tTest (tOp rEq (tVar 2) (tVar 1))) (tTest (tOp (rI0 fun i j => .bl (decide (j < i))) (tOp (rI0 fun i j => .int (i - j)) (tVar 2) (tVar 1)) (tC (.int 60)))))
      (fun _ σ H => (fun σ H Q => Q (.ref C) none H) σ H fun cls d H' => (fun cls d _ H => E cls d H) cls d σ H') tNext)
      (tRet (tTup (tCons (tCB (fun xs H Q => ∃ a n, xs = [.str a] ∧ PySem.intText? a = some n ∧ a.length ≤ 640 ∧ Q (.int n) H) (tCons (tSl rSlS (tVar 0) (tPart (tVar 1)) (tPart (tVar 2))) tNil)) (tCons (tVar 2) tNil))))
      { nx := fun _ H' => Q .non H', rt := Q } [some (T t), some (.int a), some (.int ((a + k : Nat)))] H1 := by
    intro ek
    refine ⟨_, rfl, _, rfl, rfl, _, rfl, ?_⟩
    by_cases h0 : k = 0
    · have : pNum 60 (t.drop a) = none := by
        unfold pNum
        rw [if_pos (.inl (List.eq_nil_of_length_eq_zero (by omega)))]
      rw [decide_eq_true (show V.int ((a + k : Nat) : Int) = V.int ((a : Nat) : Int) by rw [h0]; rfl)]
      exact iteT (iteT (qN this H1 (Same.refl _)))
    · rw [decide_eq_false (show ¬ V.int ((a + k : Nat) : Int) = V.int ((a : Nat) : Int) from fun z => by have := V.int.inj z; omega)]
      refine iteF ⟨_, rfl, _, rfl, _, _, rfl, rfl, _, _, rfl, rfl, _, rfl, ?_⟩
      have hne : (t.drop a).takeWhile isFig ≠ [] := fun z => by rw [z] at ek; exact h0 (by simpa using ek)
      by_cases h60 : 60 < k
      · have : pNum 60 (t.drop a) = none := by
          unfold pNum
          rw [if_pos (.inr (by omega))]
        rw [decide_eq_true (show (60 : Int) < ((a + k : Nat) : Int) - ((a : Nat) : Int) by omega)]
        exact iteT (qN this H1 (Same.refl _))
      · have hp : pNum 60 (t.drop a) = some ((val ((t.drop a).takeWhile isFig) : Int), (t.drop a).dropWhile isFig) := by
          unfold pNum
          rw [if_neg]
          intro z
          rcases z with z | z
          · exact hne z
          · omega
        rw [decide_eq_false (show ¬ (60 : Int) < ((a + k : Nat) : Int) - ((a : Nat) : Int) by omega)]
        refine iteF ⟨_, rfl, _, rfl, _, rfl, _, rfl, _, rfl, S t, rfl, by rw [S_len]; omega, S ((t.drop a).takeWhile isFig), _, ?_, int_read (take_fig _) hne (by omega), by rw [S_len]; omega, _, rfl, by show 2 ≤ sizeLine; omega, fun p hp' => ?_⟩
        · rw [cut_nat, show a + k - a = k by omega, ek, take_tw]
        · refine qS _ _ hp p _ (same_new hp' _) ?_
          rw [upd_same]
          have e2 : ((a + k : Nat) : Int) = ((t.length - ((t.drop a).dropWhile isFig).length : Nat) : Int) := by omega
          rw [← e2]
  refine ⟨_, rfl, _, rfl, S t, rfl, by rw [S_len]; omega, _, _, rfl, rfl, _, rfl, ?_⟩
  rw [S_len]
  by_cases hin : a + k < t.length
  · rw [decide_eq_true (show ((a + k : Nat) : Int) < (t.length : Int) by omega)]
    have hc : t[a + k]? = some t[a + k] := List.getElem?_eq_getElem hin
    have hf := fig_next (t := t.drop a) hk (by rw [List.getElem?_drop]; exact hc)
    refine iteT ⟨_, rfl, _, rfl, S t, _, t[a + k], rfl, rfl, by omega, by omega, by rw [S_len]; omega, ?_, t[a + k], _, rfl, rfl, _, rfl, ?_⟩
    · show (S t).cps[a + k]? = some t[a + k]
      have : (S t).cps.toList[a + k]? = some t[a + k] := hc
      rw [Array.getElem?_toList] at this
      exact this
    · rw [mem_figs, hf]
      refine ite2 (fun c => ?_) (fun c => ?_)
      · have c' : k < ((t.drop a).takeWhile isFig).length := of_decide_eq_true c
        refine ⟨fun σ' H' => H' = H1 ∧ σ' = [some (T t), some (.int a), some (.int ((a + (k + 1) : Nat)))], ?_, ?_⟩
        · rintro σ' H' ⟨rfl, rfl⟩
          exact ⟨_, by omega, rfl, k + 1, rfl, by omega, rfl⟩
        · refine ⟨_, rfl, _, _, rfl, rfl, rfl, ?_⟩
          show [some (T t), some (.int a), some (.int (((a + k : Nat) : Int) + 1))] = _
          rw [show ((a + k : Nat) : Int) + 1 = ((a + (k + 1) : Nat) : Int) by omega]
      · have c' : ¬ k < ((t.drop a).takeWhile isFig).length := of_decide_eq_false (Bool.eq_false_iff.mpr c)
        exact fin (by omega)
  · rw [decide_eq_false (show ¬ ((a + k : Nat) : Int) < (t.length : Int) by omega)]
    exact iteF (iteF (fin (by omega)))
end
end K11
/-! Pg -/
namespace K11
open PySem L2 Lad
abbrev sExpAt : Stmt := topS 38
abbrev sPairAt : Stmt := topS 39
abbrev sLadAt : Stmt := topS 40
theorem scExpAt : FnScope ["text", "at", "under", "found", "end"] ["text", "at", "under"] (defScope sExpAt) := ⟨rfl, rfl, rfl, by decide +kernel, rfl, by decide +kernel, by decide +kernel⟩
theorem scPairAt : FnScope ["text", "at", "under", "many", "end", "exponent"] ["text", "at", "under"] (defScope sPairAt) := ⟨rfl, rfl, rfl, by decide +kernel, rfl, by decide +kernel, by decide +kernel⟩
theorem scLadAt : FnScope ["text", "at", "under", "pair", "end", "found"] ["text", "at", "under"] (defScope sLadAt) := ⟨rfl, rfl, rfl, by decide +kernel, rfl, by decide +kernel, by decide +kernel⟩
def spExpAt (K : PySem.W.Frag) (C : Addr) (d : Nat) : Sp := fun vs H Q E => ∃ (t : List Nat) (a : Nat) (u : Int), vs = [T t, .int a, .int u] ∧ t.length ≤ 100000 ∧ a ≤ t.length ∧ u = 12 - (d : Int) ∧
  (pExp (pLad 60 d) (t.drop a) = none → ∀ H', Same H H' → E (.ref C) none H') ∧
  ∀ e r, pExp (pLad 60 d) (t.drop a) = some (e, r) → ∀ p ve H', Same H H' → H' p = some (.tup [ve, .int ((t.length - r.length : Nat))]) → LV K H' ve e → Q (.ref p) H'
def spPairAt (K : PySem.W.Frag) (C : Addr) (d : Nat) : Sp := fun vs H Q E => ∃ (t : List Nat) (a : Nat) (u : Int), vs = [T t, .int a, .int u] ∧ t.length ≤ 100000 ∧ a ≤ t.length ∧ u = 12 - (d : Int) ∧
  (pPair 60 (pLad 60 d) (t.drop a) = none → ∀ H', Same H H' → E (.ref C) none H') ∧
  ∀ e m r, pPair 60 (pLad 60 d) (t.drop a) = some (e, m, r) → ∀ p vp H', Same H H' → H' p = some (.tup [vp, .int ((t.length - r.length : Nat))]) → PV K H' vp e m → Q (.ref p) H'
def spLadAt (K : PySem.W.Frag) (C : Addr) (d : Nat) : Sp := fun vs H Q E => ∃ (t : List Nat) (a : Nat) (u : Int), vs = [T t, .int a, .int u] ∧ t.length ≤ 100000 ∧ a ≤ t.length ∧ u = 13 - (d : Int) ∧
  (pLad 60 d (t.drop a) = none → ∀ H', Same H H' → E (.ref C) none H') ∧
  ∀ l r, pLad 60 d (t.drop a) = some (l, r) → ∀ p vl H', Same H H' → H' p = some (.tup [vl, .int ((t.length - r.length : Nat))]) → LV K H' vl l → Q (.ref p) H'
/-- does the sign c stand there -/
theorem sign_yes {t : List Nat} {c : Nat} (h : ∃ r, t = c :: r) : decide (T (t.take 1) = T [c]) = true := by
  rw [S_dec]
  exact decide_eq_true ((take1 t c).mpr h)
theorem sign_no {t : List Nat} {c : Nat} (h : ¬ ∃ r, t = c :: r) : decide (T (t.take 1) = T [c]) = false := by
  rw [S_dec]
  exact decide_eq_false fun q => h ((take1 t c).mp q)
section
variable {P : Program} {w : World} {K : PySem.W.Frag} {mg : Str → Option Value} {base : Heap} {f g h : Addr} {fd gd' hd' : FuncData} {C oa : Addr} {uM : Value}
theorem ok_expAt {d : Nat} (F : Fun K "exponent_at" "exponent_at" sExpAt f fd) (X : ErrT K mg C) (G : FnOk P w K mg base (L2.CX P w) (3 * d + 1) g gd' ["text", "at", "under"] (spLadAt K C d)) (bG : Binds K gd' ["text", "at", "under"] []) (kG : PySem.W.keepIn K (.ref g) = true) (mG : mg "ladder_at" = some (.ref g))
    (mO : mg "ONE" = some (.ref oa)) (hO : ∀ H, LV K H (.ref oa) one) : FnOk P w K mg base (L2.CX P w) (3 * d + 1 + 1) f fd ["text", "at", "under"] (spExpAt K C d) := by
  refine F.okX scExpAt (fun vs H Q E h => ?_) (fun cdv A outer s H vs Q E hr h => ?_)
  · obtain ⟨t, a, u, rfl, _⟩ := h
    rfl
  obtain ⟨t, a, u, rfl, hl, ha, hu, qN, qS⟩ := h
  refine ⟨_, pss_cons (ps_if (pt_cmpR op_ne (pe_slice sl_str (pv 0) (po_some (pv 1)) (po_some (pe_op op_add (pv 1) pe_int))) pe_str (nomark _)) (pss_one (ps_ret (pe_tup (pa_cons (pe_glob (v := .ref oa) (by rfl) mO rfl) (pa_cons (pv 1) pa_nil))))) pss_nil)
    (pss_cons (ps_asg (pe_call G hr (by rfl) mG kG bG .nil (passes_call (takes_of rfl rfl rfl rfl) (fun _ _ _ _ h => h)) (pa_cons (pv 0) (pa_cons (pe_op op_add (pv 1) pe_int) (pa_cons (pe_op op_add (pv 2) pe_int) pa_nil)))) (pg_tup rfl (pgs_cons (pg_name (i := 3) scExpAt.nd rfl (.inl rfl)) (pgs_cons (pg_name (i := 4) scExpAt.nd rfl (.inl rfl)) pgs_nil))))
    (pss_cons (ps_if (pt_cmpR op_ne (pe_slice sl_str (pv 0) (po_some (pv 4)) (po_some (pe_op op_add (pv 4) pe_int))) pe_str (nomark _)) (pss_one (ps_raise rfl (takes_of rfl rfl rfl rfl) (pmk_own PySem.F.excBase_ValueError X.x X.g X.k (raises_own X.b X.t) rfl))) pss_nil)
    (pss_one (ps_ret (pe_tup (pa_cons (pv 3) (pa_cons (pe_op op_add (pv 4) pe_int) pa_nil))))))), ?_⟩
  have big := big16
  refine ⟨_, rfl, _, rfl, _, rfl, _, rfl, _, _, rfl, rfl, _, rfl, S t, rfl, by rw [S_len]; omega, rfl, _, rfl, ?_⟩
  rw [cut_one t a _ _ rfl (by omega), lit_b]
  by_cases hb : ∃ r, t.drop a = 91 :: r
  · rw [sign_yes hb]
    obtain ⟨r0, hb⟩ := hb
    obtain ⟨hd1, hd2⟩ := drop_cons hb
    refine iteF ?_
    refine ⟨_, rfl, _, rfl, _, _, rfl, rfl, _, rfl, _, _, rfl, rfl, t, a + 1, u + 1, ?_, hl, hd2, by omega, ?_, ?_⟩
    · rfl
    · intro hn H1 S1
      rw [hd1] at hn
      refine qN ?_ H1 S1
      rw [hb]
      exact pExp_none hn
    · intro l r hp p vl H1 S1 hp1 lv1
      rw [hd1] at hp
      have hsuf := lad_suf 60 d _ _ _ hp
      have hrt : r <:+ t := (hsuf.trans (by rw [← hd1]; exact List.drop_suffix _ _))
      have hdr := suf_drop hrt
      have hlr := hrt.length_le
      refine ⟨p, _, rfl, SqT.of hp1, rfl, _, _, rfl, _, _, rfl, rfl, ?_⟩
      refine ⟨_, rfl, _, rfl, _, rfl, _, rfl, _, _, rfl, rfl, _, rfl, S t, rfl, by rw [S_len]; omega, rfl, _, rfl, ?_⟩
      rw [cut_one t (t.length - r.length) _ _ rfl (by omega), lit_c, hdr]
      by_cases hc : ∃ q, r = 93 :: q
      · rw [sign_yes hc]
        obtain ⟨q, rfl⟩ := hc
        refine iteF ⟨_, rfl, _, rfl, _, _, rfl, rfl, by show 2 ≤ sizeLine; omega, fun p2 hp2 => ?_⟩
        refine qS l q (by rw [hb]; exact pExp_close hp) p2 vl _ (S1.trans (same_new hp2 _)) ?_ (LV.gr (gr_new hp2 _) lv1)
        rw [upd_same]
        simp only [List.length_cons] at hlr ⊢
        rw [show ((t.length - (q.length + 1) : Nat) : Int) + 1 = ((t.length - q.length : Nat) : Int) by omega]
      · rw [sign_no hc]
        refine iteT (qN ?_ H1 S1)
        rw [hb]
        exact pExp_open hp hc
  · rw [sign_no hb]
    refine iteT ⟨_, rfl, by show 2 ≤ sizeLine; omega, fun p hp => ?_⟩
    refine qS one (t.drop a) (pExp_one fun r e => hb ⟨r, e⟩) p _ _ (same_new hp _) ?_ (hO _)
    rw [upd_same, List.length_drop, show t.length - (t.length - a) = a by omega]
end
end K11
/-! Ph -/
namespace K11
open PySem L2 Lad
section
variable {P : Program} {w : World} {K : PySem.W.Frag} {mg : Str → Option Value} {base : Heap} {f g h : Addr} {fd gd' hd' : FuncData} {C oa : Addr} {uM : Value}
theorem ok_pairAt {d : Nat} (F : Fun K "pair_at" "pair_at" sPairAt f fd) (G : FnOk P w K mg base (L2.CX P w) (3 * d + 1 + 1) g gd' ["text", "at", "under"] (spExpAt K C d)) (bG : Binds K gd' ["text", "at", "under"] []) (kG : PySem.W.keepIn K (.ref g) = true) (mG : mg "exponent_at" = some (.ref g))
    (GM : FnOk P w K mg base (L2.CX P w) 1 h hd' ["text", "at"] (spMany C)) (bM : Binds K hd' ["text", "at"] []) (kM : PySem.W.keepIn K (.ref h) = true) (mM : mg "many_at" = some (.ref h)) : FnOk P w K mg base (L2.CX P w) (3 * d + 1 + 1 + 1) f fd ["text", "at", "under"] (spPairAt K C d) := by
  refine F.okX scPairAt (fun vs H Q E h => ?_) (fun cdv A outer s H vs Q E hr h => ?_)
  · obtain ⟨t, a, u, rfl, _⟩ := h
    rfl
  obtain ⟨t, a, u, rfl, hl, ha, hu, qN, qS⟩ := h
  have hrM : Room 1 _ := hr.mono (by omega)
  refine ⟨_, pss_cons (ps_if (pt_cmpR op_ne (pe_slice sl_str (pv 0) (po_some (pv 1)) (po_some (pe_op op_add (pv 1) pe_int))) pe_str (nomark _))
      (pss_cons (ps_asg (pe_call GM hrM (by rfl) mM kM bM .nil (passes_call (takes_of rfl rfl rfl rfl) (fun _ _ _ _ h => h)) (pa_cons (pv 0) (pa_cons (pv 1) pa_nil))) (pg_tup rfl (pgs_cons (pg_name (i := 3) scPairAt.nd rfl (.inl rfl)) (pgs_cons (pg_name (i := 4) scPairAt.nd rfl (.inl rfl)) pgs_nil))))
      (pss_one (ps_ret (pe_tup (pa_cons (pe_tup (pa_cons (pe_tup pa_nil) (pa_cons (pv 3) pa_nil))) (pa_cons (pv 4) pa_nil)))))) pss_nil)
    (pss_cons (ps_asg (pe_call G hr (by rfl) mG kG bG .nil (passes_call (takes_of rfl rfl rfl rfl) (fun _ _ _ _ h => h)) (pa_cons (pv 0) (pa_cons (pe_op op_add (pv 1) pe_int) (pa_cons (pv 2) pa_nil)))) (pg_tup rfl (pgs_cons (pg_name (i := 5) scPairAt.nd rfl (.inl rfl)) (pgs_cons (pg_name (i := 4) scPairAt.nd rfl (.inl rfl)) pgs_nil))))
    (pss_cons (ps_set (i := 3) scPairAt.nd rfl (.inl rfl) pe_int)
    (pss_cons (ps_if (pt_cmpR op_eq (pe_slice sl_str (pv 0) (po_some (pv 4)) (po_some (pe_op op_add (pv 4) pe_int))) pe_str (nomark _))
      (pss_one (ps_asg (pe_call GM hrM (by rfl) mM kM bM .nil (passes_call (takes_of rfl rfl rfl rfl) (fun _ _ _ _ h => h)) (pa_cons (pv 0) (pa_cons (pe_op op_add (pv 4) pe_int) pa_nil))) (pg_tup rfl (pgs_cons (pg_name (i := 3) scPairAt.nd rfl (.inl rfl)) (pgs_cons (pg_name (i := 4) scPairAt.nd rfl (.inl rfl)) pgs_nil))))) pss_nil)
    (pss_one (ps_ret (pe_tup (pa_cons (pe_tup (pa_cons (pv 5) (pa_cons (pv 3) pa_nil))) (pa_cons (pv 4) pa_nil)))))))), ?_⟩
  have big := big16
  refine ⟨_, rfl, _, rfl, _, rfl, _, rfl, _, _, rfl, rfl, _, rfl, S t, rfl, by rw [S_len]; omega, rfl, _, rfl, ?_⟩
  rw [cut_one t a _ _ rfl (by omega), lit_z]
  by_cases hz : ∃ r, t.drop a = 122 :: r
  · rw [sign_yes hz]
    obtain ⟨r0, hz⟩ := hz
    obtain ⟨hd1, hd2⟩ := drop_cons hz
    refine iteF ?_
    refine ⟨_, rfl, _, rfl, _, _, rfl, rfl, _, rfl, t, a + 1, u, rfl, hl, hd2, hu, fun hn H1 S1 => ?_, fun e q hx p ve H1 S1 hp1 lv1 => ?_⟩
    · rw [hd1] at hn
      exact qN (by rw [hz]; exact pPair_no1 hn) H1 S1
    · rw [hd1] at hx
      have hsuf := pExp_suf (lad_suf 60 d) hx
      have hqt : q <:+ t := (hsuf.trans (by rw [← hd1]; exact List.drop_suffix _ _))
      have hdq := suf_drop hqt
      have hlq := hqt.length_le
      refine ⟨p, _, rfl, SqT.of hp1, rfl, _, _, rfl, _, _, rfl, rfl, ?_⟩
      -- behind: many and the return
      have fin : ∀ (m : Int) (r : List Nat) (H2 : Hp), Same H1 H2 → pMany 60 q = some (m, r) → tRet (tTup (tCons (tTup (tCons (tVar 5) (tCons (tVar 3) tNil))) (tCons (tVar 4) tNil))) { nx := fun _ H' => Q .non H', rt := Q } [some (T t), some (.int a), some (.int u), some (.int m), some (.int ((t.length - r.length : Nat))), some ve] H2 := by
        intro m r H2 S2 hm
        refine ⟨_, rfl, _, rfl, by show 2 ≤ sizeLine; omega, fun p1 hp => ⟨_, rfl, by show 2 ≤ sizeLine; omega, fun p2 hp2 => ?_⟩⟩
        refine qS e m r (by rw [hz]; exact pPair_yes hx hm) p2 (.ref p1) _ ((S1.trans S2).trans ((same_new hp _).trans (same_new hp2 _))) (by rw [upd_same]) ?_
        refine PV.gr (gr_new hp2 _) (PV.mk' (SqT.of upd_same) (LV.gr ((Same.gr S2).trans (gr_new hp _)) lv1))
      refine ⟨_, rfl, _, rfl, _, rfl, _, rfl, _, _, rfl, rfl, _, rfl, S t, rfl, by rw [S_len]; omega, rfl, _, rfl, ?_⟩
      rw [cut_one t (t.length - q.length) _ _ rfl (by omega), lit_star, hdq]
      by_cases hs : ∃ r, q = 42 :: r
      · rw [sign_yes hs]
        obtain ⟨r1, rfl⟩ := hs
        simp only [List.length_cons] at hlq hdq
        obtain ⟨hd3, hd4⟩ := drop_cons hdq
        refine iteT ⟨_, rfl, _, rfl, _, _, rfl, rfl, t, t.length - (r1.length + 1) + 1, ?_, hl, hd4, fun hn H2 S2 => ?_, fun m r hm p2 H2 S2 hp2 => ?_⟩
        · simp only [List.length_cons]
          rfl
        · rw [hd3] at hn
          exact qN (by rw [hz]; exact pPair_no2 hx hn) H2 (S1.trans S2)
        · rw [hd3] at hm
          refine ⟨p2, _, rfl, SqT.of hp2, rfl, _, _, rfl, _, _, rfl, rfl, ?_⟩
          exact fin m r H2 S2 hm
      · rw [sign_no hs]
        exact iteF (fin 1 q H1 (Same.refl _) (pMany_else hs))
  · rw [sign_no hz]
    refine iteT ⟨_, rfl, _, rfl, t, a, rfl, hl, ha, fun hn H1 S1 => qN (pPair_n0 hz hn) H1 S1, fun m r hm p H1 S1 hp1 => ?_⟩
    refine ⟨p, _, rfl, SqT.of hp1, rfl, _, _, rfl, _, _, rfl, rfl, ?_⟩
    refine ⟨by show 0 ≤ sizeLine; omega, fun p0 hp0 => ⟨_, rfl, by show 2 ≤ sizeLine; omega, fun p1 hp => ⟨_, rfl, by show 2 ≤ sizeLine; omega, fun p2 hp2 => ?_⟩⟩⟩
    refine qS .nil m r (pPair_n1 hz hm) p2 (.ref p1) _ (S1.trans ((same_new hp0 _).trans ((same_new hp _).trans (same_new hp2 _)))) (by rw [upd_same]) ?_
    exact PV.gr (gr_new hp2 _) (PV.mk' (SqT.of upd_same) (LV.gr (gr_new hp _) (LV.nil (SqT.of upd_same))))
theorem ok_ladAt {d : Nat} (F : Fun K "ladder_at" "ladder_at" sLadAt f fd) (X : ErrT K mg C) (G : FnOk P w K mg base (L2.CX P w) (3 * d + 1 + 1 + 1) g gd' ["text", "at", "under"] (spPairAt K C d)) (bG : Binds K gd' ["text", "at", "under"] []) (kG : PySem.W.keepIn K (.ref g) = true) (mG : mg "pair_at" = some (.ref g))
    (mM : mg "MOST_DEEP" = some uM) (rM : RelV (.int 12) uM) (mT : mg "tuple" = none) : FnOk P w K mg base (L2.CX P w) (3 * (d + 1) + 1) f fd ["text", "at", "under"] (spLadAt K C (d + 1)) := by
  refine F.okX scLadAt (fun vs H Q E h => ?_) (fun cdv A outer s H vs Q E hr h => ?_)
  · obtain ⟨t, a, u, rfl, _⟩ := h
    rfl
  obtain ⟨t, a, u, rfl, hl, ha, hu, qN, qS⟩ := h
  have hrG : Room (3 * d + 1 + 1 + 1) _ := hr.mono (by omega)
  refine ⟨_, pss_cons (ps_if (pt_cmpR op_gt (pv 2) (pe_glob (by rfl) mM rM) (nomark _)) (pss_one (ps_raise rfl (takes_of rfl rfl rfl rfl) (pmk_own PySem.F.excBase_ValueError X.x X.g X.k (raises_own X.b X.t) rfl))) pss_nil)
    (pss_cons (ps_asg (pe_call G hrG (by rfl) mG kG bG .nil (passes_call (takes_of rfl rfl rfl rfl) (fun _ _ _ _ h => h)) (pa_cons (pv 0) (pa_cons (pv 1) (pa_cons (pv 2) pa_nil)))) (pg_tup rfl (pgs_cons (pg_name (i := 3) scLadAt.nd rfl (.inl rfl)) (pgs_cons (pg_name (i := 4) scLadAt.nd rfl (.inl rfl)) pgs_nil))))
    (pss_cons (ps_set (i := 5) scLadAt.nd rfl (.inl rfl) (pe_lst (pa_cons (pv 3) pa_nil)))
    (pss_cons (ps_while (L2.passes_of rfl) (pt_cmpR op_eq (pe_slice sl_str (pv 0) (po_some (pv 4)) (po_some (pe_op op_add (pv 4) pe_int))) pe_str (nomark _))
      (pss_cons (ps_asg (pe_call G hrG (by rfl) mG kG bG .nil (passes_call (takes_of rfl rfl rfl rfl) (fun _ _ _ _ h => h)) (pa_cons (pv 0) (pa_cons (pe_op op_add (pv 4) pe_int) (pa_cons (pv 2) pa_nil)))) (pg_tup rfl (pgs_cons (pg_name (i := 3) scLadAt.nd rfl (.inl rfl)) (pgs_cons (pg_name (i := 4) scLadAt.nd rfl (.inl rfl)) pgs_nil))))
      (pss_one (ps_expr (pe_bm PySem.F.plainAttrs_list PySem.F.slot_list_append PySem.F.type_list_append mt_append (pv 5) (pa_cons (pv 3) pa_nil))))))
    (pss_one (ps_ret (pe_tup (pa_cons (pe_callTy call_tuple_of (by rfl) mT (by decide +kernel) (pa_cons (pv 5) pa_nil)) (pa_cons (pv 4) pa_nil)))))))), ?_⟩
  have big := big16
  have Fi := lad_fine (w := 60) (by decide) d
  rw [lad_PL] at qN
  have qS' : ∀ l r, PL 60 (pLad 60 d) (t.drop a) = some (l, r) → ∀ p vl H', Same H H' → H' p = some (.tup [vl, .int ((t.length - r.length : Nat))]) → LV K H' vl l → Q (.ref p) H' := qS
  refine ⟨_, rfl, _, _, rfl, rfl, _, rfl, ?_⟩
  rw [decide_eq_false (show ¬ (12 : Int) < u by omega)]
  refine iteF ⟨_, rfl, _, rfl, _, rfl, t, a, u, rfl, hl, ha, by omega, fun hn H1 S1 => qN (PL_no hn) H1 S1, fun e m r hp p vp H1 S1 hp1 pv1 => ?_⟩
  have hrt : r <:+ t := suf_of_drop (pPair_suf (lad_suf 60 d) hp)
  refine ⟨p, _, rfl, SqT.of hp1, rfl, _, _, rfl, _, _, rfl, rfl, ?_⟩
  refine ⟨_, rfl, by show 1 ≤ sizeLine; omega, fun fa hfa => ?_⟩
  have hfH : H fa = none := S1.free hfa
  have e0 := PL_PR (w := 60) (by decide) Fi hp
  refine ⟨fun k σ H2 => ∃ (vp : V) (q : List Nat) (l0 : Lad) (xs : List V), σ = [some (T t), some (.int a), some (.int u), some vp, some (.int ((t.length - q.length : Nat))), some (.ref fa)] ∧ q <:+ t ∧ k = q.length ∧ Same H H2 ∧ H2 fa = some (.lst xs) ∧ LVs K H2 xs l0 ∧ xs.length + q.length ≤ t.length + 1 ∧ PL 60 (pLad 60 d) (t.drop a) = PR 60 (pLad 60 d) l0 q,
    ⟨_, vp, r, .cons e m .nil, [vp], rfl, hrt, rfl, Same.upd_at hfH S1 _, upd_same, LVs.cons (PV.gr (gr_new hfa _) pv1) rfl, by have := hrt.length_le; show 1 + r.length ≤ _; omega, e0⟩, ?_⟩
  rintro k σ H2 ⟨vp', q, l0, xs, rfl, hq, rfl, S2, hfa2, hxs, hlen, eR⟩
  have hdq := suf_drop hq
  have hlq := hq.length_le
  refine ⟨_, rfl, _, rfl, _, rfl, _, rfl, _, _, rfl, rfl, _, rfl, S t, rfl, by rw [S_len]; omega, rfl, _, rfl, ?_⟩
  rw [cut_one t (t.length - q.length) _ _ rfl (by omega), lit_plus, hdq]
  by_cases hs : ∃ r, q = 43 :: r
  · rw [sign_yes hs]
    obtain ⟨r1, rfl⟩ := hs
    simp only [List.length_cons] at hlq hdq hlen
    obtain ⟨hd3, hd4⟩ := drop_cons hdq
    refine iteT ⟨fun σ' H' => ∃ (vp : V) (q : List Nat) (l0 : Lad) (xs : List V), σ' = [some (T t), some (.int a), some (.int u), some vp, some (.int ((t.length - q.length : Nat))), some (.ref fa)] ∧ q <:+ t ∧ q.length < r1.length + 1 ∧ Same H H' ∧ H' fa = some (.lst xs) ∧ LVs K H' xs l0 ∧ xs.length + q.length ≤ t.length + 1 ∧ PL 60 (pLad 60 d) (t.drop a) = PR 60 (pLad 60 d) l0 q, ?_, ?_⟩
    · rintro σ' H' ⟨vp, q, l0, xs, h1, h2, h3, h4, h5, h6, h7, h8⟩
      exact ⟨_, by simp only [List.length_cons]; exact h3, vp, q, l0, xs, h1, h2, rfl, h4, h5, h6, h7, h8⟩
    · refine ⟨_, rfl, _, rfl, _, _, rfl, rfl, _, rfl, t, t.length - (r1.length + 1) + 1, u, ?_, hl, hd4, by omega, fun hn H3 S3 => ?_, fun e m r2 hp p vp H3 S3 hp3 pv3 => ?_⟩
      · simp only [List.length_cons]
        rfl
      · rw [hd3] at hn
        refine qN ?_ H3 (S2.trans S3)
        rw [eR]
        exact PR_no hn
      · rw [hd3] at hp
        have hfin := pPair_fine (by decide) Fi hp
        have hrt2 : r2 <:+ t := (pPair_suf (lad_suf 60 d) hp).trans ((List.suffix_cons 43 r1).trans hq)
        have hfa3 := S3 _ _ hfa2
        refine ⟨p, _, rfl, SqT.of hp3, rfl, _, _, rfl, _, _, rfl, rfl, ?_⟩
        refine ⟨_, rfl, .inl ⟨rfl, _, SqL.of hfa3⟩, _, rfl, fa, xs, vp, rfl, rfl, hfa3, by omega, ?_⟩
        refine ⟨vp, r2, app l0 (.cons e m .nil), xs ++ [vp], rfl, hrt2, by omega, Same.upd_at hfH (S2.trans S3) _, upd_same, ?_, ?_, ?_⟩
        · have g3 : Gr H3 (upd H3 fa (.lst (xs ++ [vp]))) := gr_lst hfa3 _
          exact LVs.app (LVs.gr ((Same.gr S3).trans g3) hxs) (LVs.cons (PV.gr g3 pv3) rfl)
        · rw [List.length_append]
          simp only [List.length_cons, List.length_nil]
          omega
        · rw [eR]
          exact PR_step (by decide) Fi hp
  · rw [sign_no hs]
    refine iteF ⟨_, rfl, fa, xs, rfl, .inl ⟨SqL.of hfa2, fun p1 hp1 => ⟨_, rfl, by show 2 ≤ sizeLine; omega, fun p2 hp2 => ?_⟩⟩⟩
    refine qS' l0 q (by rw [eR]; exact PR_end hs) p2 (.ref p1) _ (S2.trans ((same_new hp1 _).trans (same_new hp2 _))) (by rw [upd_same]) ?_
    exact LV.gr (gr_new hp2 _) ⟨p1, xs, rfl, SqT.of upd_same, LVs.gr (gr_new hp1 _) hxs⟩
theorem ladAt_zero (F : Fun K "ladder_at" "ladder_at" sLadAt f fd) (X : ErrT K mg C) (mM : mg "MOST_DEEP" = some uM) (rM : RelV (.int 12) uM) : FnOk P w K mg base (L2.CX P w) (3 * 0 + 1) f fd ["text", "at", "under"] (spLadAt K C 0) := by
  refine F.okX scLadAt (fun vs H Q E h => ?_) (fun cdv A outer s H vs Q E hr h => ?_)
  · obtain ⟨t, a, u, rfl, _⟩ := h
    rfl
  obtain ⟨t, a, u, rfl, hl, ha, hu, qN, qS⟩ := h
  refine ⟨_, pss_cons (ps_if (pt_cmpR op_gt (pv 2) (pe_glob (by rfl) mM rM) (nomark _)) (pss_one (ps_raise rfl (takes_of rfl rfl rfl rfl) (pmk_own PySem.F.excBase_ValueError X.x X.g X.k (raises_own X.b X.t) rfl))) pss_nil) pss_never, ?_⟩
  refine ⟨_, rfl, _, _, rfl, rfl, _, rfl, ?_⟩
  rw [decide_eq_true (show (12 : Int) < u by omega)]
  exact iteT (qN rfl H (Same.refl _))
end
end K11
/-! Pi -/
namespace K11
open PySem L2 Lad
abbrev sRead : Stmt := topS 41
theorem scRead : FnScope ["text", "found", "end"] ["text"] (defScope sRead) := ⟨rfl, rfl, rfl, by decide +kernel, rfl, by decide +kernel, by decide +kernel⟩
/-- read_ladder(text) -/
def spRead (K : PySem.W.Frag) (C : Addr) : Sp := fun vs H Q E => ∃ t : List Nat, vs = [T t] ∧ t.length ≤ 50000 ∧
  (rd t = none → ∀ H', Same H H' → E (.ref C) none H') ∧ ∀ l, rd t = some l → ∀ v H', Same H H' → LV K H' v l → Q v H'
section
variable {P : Program} {w : World} {K : PySem.W.Frag} {mg : Str → Option Value} {base : Heap} {f g1 g2 g3 g4 g5 : Addr} {fd d1 d2 d3 d4 d5 : FuncData} {C : Addr} {uP uD : Value}
theorem ok_read (F : Fun K "read_ladder" "read_ladder" sRead f fd) (X : ErrT K mg C)
    (G1 : FnOk P w K mg base (L2.CX P w) (3 * 12 + 1) g1 d1 ["text", "at", "under"] (spLadAt K C 12)) (b1 : Binds K d1 ["text", "at", "under"] []) (k1 : PySem.W.keepIn K (.ref g1) = true) (m1 : mg "ladder_at" = some (.ref g1))
    (G2 : FnOk P w K mg base CX0 30 g2 d2 ["thing"] (spIsLad K 15)) (b2 : Binds K d2 ["thing"] []) (k2 : PySem.W.keepIn K (.ref g2) = true) (m2 : mg "is_ladder" = some (.ref g2))
    (G3 : FnOk P w K mg base CX0 30 g3 d3 ["ladder"] (spShow K 15)) (b3 : Binds K d3 ["ladder"] []) (k3 : PySem.W.keepIn K (.ref g3) = true) (m3 : mg "show_ladder" = some (.ref g3))
    (G4 : FnOk P w K mg base CX0 15 g4 d4 ["ladder"] (spParts K 15)) (b4 : Binds K d4 ["ladder"] []) (k4 : PySem.W.keepIn K (.ref g4) = true) (m4 : mg "parts" = some (.ref g4))
    (G5 : FnOk P w K mg base CX0 15 g5 d5 ["ladder"] (spDeep K 15)) (b5 : Binds K d5 ["ladder"] []) (k5 : PySem.W.keepIn K (.ref g5) = true) (m5 : mg "deep" = some (.ref g5))
    (ml : mg "len" = none) (mP : mg "MOST_PARTS" = some uP) (rP : RelV (.int 60) uP) (mD : mg "MOST_DEEP" = some uD) (rD : RelV (.int 12) uD) :
    FnOk P w K mg base (L2.CX P w) 38 f fd ["text"] (spRead K C) := by
  refine F.okX scRead (fun vs H Q E h => ?_) (fun cdv A outer s H vs Q E hr h => ?_)
  · obtain ⟨t, rfl, _⟩ := h
    rfl
  obtain ⟨t, rfl, hl, qN, qS⟩ := h
  have hr1 : Room (3 * 12 + 1) _ := hr.mono (by decide)
  have hr2 : Room 30 _ := hr.mono (by decide)
  have hr4 : Room 15 _ := hr.mono (by decide)
  refine ⟨_, pss_cons (ps_if (pt_cmpR op_eq (pv 0) pe_str (nomark _)) (pss_one (ps_ret (pe_tup pa_nil))) pss_nil)
    (pss_cons (ps_asg (pe_call G1 hr1 (by rfl) m1 k1 b1 .nil (passes_call (takes_of rfl rfl rfl rfl) (fun _ _ _ _ h => h)) (pa_cons (pv 0) (pa_cons pe_int (pa_cons pe_int pa_nil)))) (pg_tup rfl (pgs_cons (pg_name (i := 1) scRead.nd rfl (.inl rfl)) (pgs_cons (pg_name (i := 2) scRead.nd rfl (.inl rfl)) pgs_nil))))
    (pss_cons (ps_if (PW.pt (pw_or (pt_cmpR op_ne (pv 2) (pe_callB call_len_str rfl ml PySem.boot_len (pa_cons (pv 0) pa_nil)) (nomark _))
        (pw_or (pt_not (pt_val (PE.nox (pe_call G2 hr2 (by rfl) m2 k2 b2 .nil pass0 (pa_cons (pv 1) pa_nil)))))
        (pw_or1 (pt_cmpR op_ne (PE.nox (pe_call G3 hr2 (by rfl) m3 k3 b3 .nil pass0 (pa_cons (pv 1) pa_nil))) (pv 0) (nomark _))))))
      (pss_one (ps_raise rfl (takes_of rfl rfl rfl rfl) (pmk_own PySem.F.excBase_ValueError X.x X.g X.k (raises_own X.b X.t) rfl))) pss_nil)
    (pss_cons (ps_if (PW.pt (pw_or (pt_cmpR op_gt (PE.nox (pe_call G4 hr4 (by rfl) m4 k4 b4 .nil pass0 (pa_cons (pv 1) pa_nil))) (pe_glob (by rfl) mP rP) (nomark _))
        (pw_or1 (pt_cmpR op_gt (PE.nox (pe_call G5 hr4 (by rfl) m5 k5 b5 .nil pass0 (pa_cons (pv 1) pa_nil))) (pe_glob (by rfl) mD rD) (nomark _)))))
      (pss_one (ps_raise rfl (takes_of rfl rfl rfl rfl) (pmk_own PySem.F.excBase_ValueError X.x X.g X.k (raises_own X.b X.t) rfl))) pss_nil)
    (pss_one (ps_ret (pv 1)))))), ?_⟩
  have big := big16
  refine ⟨_, rfl, rfl, _, rfl, ?_⟩
  rw [lit_0, S_dec]
  by_cases h0 : t = [48]
  · rw [decide_eq_true h0]
    refine iteT ⟨by show 0 ≤ sizeLine; omega, fun p hp => ?_⟩
    refine qS .nil (by rw [h0]; rfl) _ _ (same_new hp _) (LV.nil (SqT.of upd_same))
  · rw [decide_eq_false h0]
    refine iteF ⟨_, rfl, t, 0, 1, rfl, by omega, Nat.zero_le _, rfl, fun hn H1 S1 => qN (due_no h0 hn) H1 S1, fun l r hp p vl H1 S1 hp1 lv1 => ?_⟩
    rw [List.drop_zero] at hp
    have hf := (lad_fine (w := 60) (by decide) 12).p _ _ _ hp
    have hg0 := (lad_fine (w := 60) (by decide) 12).g _ _ _ hp
    have hdp := lad_deep 12 _ _ _ hp
    refine ⟨p, _, rfl, SqT.of hp1, rfl, _, _, rfl, _, _, rfl, rfl, ?_⟩
    refine ⟨_, rfl, _, rfl, S t, rfl, by rw [S_len]; omega, rfl, _, rfl, ?_⟩
    rw [S_len]
    by_cases hr0 : r = []
    · subst hr0
      rw [decide_eq_true (show V.int ((t.length - ([] : List Nat).length : Nat) : Int) = V.int (t.length : Int) by rfl)]
      refine iteF ⟨_, rfl, vl, l, rfl, lv1, by omega, by decide, by omega, fun H2 S2 => ⟨_, rfl, ?_⟩⟩
      cases ho : l.ok with
      | false => exact iteT (iteT (qN (due_bad h0 hp (good_no1 ho)) H2 (S1.trans S2)))
      | true =>
        have gd60 := gd_of hg0 (g1_ok ho)
        refine iteF ⟨_, rfl, vl, l, rfl, LV.gr (Same.gr S2) lv1, by omega, by decide, gd_mono (by decide) l gd60, by omega, fun H3 S3 => ⟨_, rfl, rfl, _, rfl, ?_⟩⟩
        rw [S_dec]
        by_cases hs : sh l = t
        · rw [decide_eq_true hs]
          refine iteF ⟨_, rfl, vl, l, rfl, LV.gr (Same.gr (S2.trans S3)) lv1, by omega, by omega, fun H4 S4 => ⟨_, _, rfl, rfl, _, rfl, ?_⟩⟩
          by_cases hP : l.parts ≤ 60
          · rw [decide_eq_false (show ¬ (60 : Int) < (l.parts : Nat) by omega)]
            refine iteF ⟨_, rfl, vl, l, rfl, LV.gr (Same.gr ((S2.trans S3).trans S4)) lv1, by omega, by omega, fun H5 S5 => ⟨_, _, rfl, rfl, _, rfl, ?_⟩⟩
            have SS := (((S1.trans S2).trans S3).trans S4).trans S5
            by_cases hD : l.deep ≤ 12
            · rw [decide_eq_false (show ¬ (12 : Int) < (l.deep : Nat) by omega)]
              refine iteF ⟨_, rfl, ?_⟩
              exact qS l (due_good h0 hp (good_yes ho hs hP hD)) vl H5 SS (LV.gr (Same.gr (((S2.trans S3).trans S4).trans S5)) lv1)
            · rw [decide_eq_true (show (12 : Int) < (l.deep : Nat) by omega)]
              exact iteT (qN (due_bad h0 hp (good_no4 hD)) H5 SS)
          · rw [decide_eq_true (show (60 : Int) < (l.parts : Nat) by omega)]
            exact iteT (iteT (qN (due_bad h0 hp (good_no3 hP)) H4 (((S1.trans S2).trans S3).trans S4)))
        · rw [decide_eq_false hs]
          exact iteT (qN (due_bad h0 hp (good_no2 hs)) H3 ((S1.trans S2).trans S3))
    · have hlr : 0 < r.length := List.length_pos_iff.mpr hr0
      rw [decide_eq_false (show ¬ V.int ((t.length - r.length : Nat) : Int) = V.int (t.length : Int) from fun z => by have := V.int.inj z; omega)]
      exact iteT (iteT (qN (due_rest h0 hp hr0) H1 S1))
end
end K11
/-! Qa -/
namespace K11
open PySem L2 Lad
abbrev sLawAt : Stmt := topS 43
abbrev sPurse : Stmt := topS 44
abbrev sDraw : Stmt := topS 45
abbrev sMuch : Stmt := topS 46
theorem scLawAt : FnScope ["_law_script", "_law_k"] ["_law_script", "_law_k"] (defScope sLawAt) := ⟨rfl, rfl, rfl, by decide +kernel, rfl, by decide +kernel, by decide +kernel⟩
theorem scPurse : FnScope ["_law_cell", "_law_salt", "_law_digits"] ["_law_cell", "_law_salt"] (defScope sPurse) := ⟨rfl, rfl, rfl, by decide +kernel, rfl, by decide +kernel, by decide +kernel⟩
theorem scDraw : FnScope ["_law_purse_here", "_law_many_here", "_law_found", "_law_mixed"] ["_law_purse_here", "_law_many_here"] (defScope sDraw) := ⟨rfl, rfl, rfl, by decide +kernel, rfl, by decide +kernel, by decide +kernel⟩
theorem scMuch : FnScope ["_law_purse_here", "_law_way", "_law_found", "_law_turn"] ["_law_purse_here"] (defScope sMuch) := ⟨rfl, rfl, rfl, by decide +kernel, rfl, by decide +kernel, by decide +kernel⟩
/-- a purse: two numbers, the second one small -/
def Purse (H : Hp) (p : Addr) : Prop := ∃ d s : Int, H p = some (.lst [.int d, .int s]) ∧ 0 ≤ d ∧ 0 ≤ s ∧ s < 2147483629
/-- all but the purse as it was -/
def Drawn (p : Addr) (H H' : Hp) : Prop := (∀ b o, b ≠ p → H b = some o → H' b = some o) ∧ Purse H' p
theorem Drawn.trans {p : Addr} {H H1 H2 : Hp} (a : Drawn p H H1) (b : Drawn p H1 H2) : Drawn p H H2 := ⟨fun c o h q => b.1 c o h (a.1 c o h q), b.2⟩
theorem Purse.same {p : Addr} {H H' : Hp} (h : Purse H p) (s : Same H H') : Purse H' p := by
  obtain ⟨d, k, e, r⟩ := h
  exact ⟨d, k, s _ _ e, r⟩
theorem Drawn.of {p : Addr} {H H' : Hp} (h : Purse H p) (s : Same H H') : Drawn p H H' := ⟨fun b o _ q => s b o q, h.same s⟩
theorem Drawn.gr {p : Addr} {H H' : Hp} (hp : Purse H p) (h : Drawn p H H') : Gr H H' := fun a xs q => by
  obtain ⟨d, s, e, _⟩ := hp
  rcases q with q | ⟨u, q⟩
  · exact .inl (h.1 _ _ (ne_of q e (fun z => by cases z)) q)
  · exact .inr ⟨u, h.1 _ _ (ne_of q e (fun z => by cases z)) q⟩
theorem Drawn.free {p : Addr} {H H' : Hp} (h : Drawn p H H') {a : Addr} (ha : a ≠ p) (q : H' a = none) : H a = none := by
  cases e : H a with
  | none => rfl
  | some o =>
    rw [h.1 a o ha e] at q
    cases q
theorem Purse.ne {p : Addr} {H : Hp} (h : Purse H p) {a : Addr} (q : H a = none) : a ≠ p := by
  obtain ⟨d, s, e, _⟩ := h
  rintro rfl
  rw [e] at q
  cases q
def spLawAt (K : PySem.W.Frag) : Sp := fun vs H Q _ => ∃ (a : Addr) (ns : List Int), vs = [.ref a, .int 0] ∧ SqL K H a (ns.map V.int) ∧ ns.length ≤ 63 ∧ ∀ n : Int, Q (.int n) H
def spPurse : Sp := fun vs H Q _ => ∃ c k : Int, vs = [.int c, .int k] ∧ 0 ≤ k ∧ k ≤ 100 ∧ ∀ p H', Same H H' → H p = none → Purse H' p → Q (.ref p) H'
def spDraw : Sp := fun vs H Q _ => ∃ (p : Addr) (n : Int), vs = [.ref p, .int n] ∧ Purse H p ∧ 1 ≤ n ∧ n ≤ 1000000 ∧ ∀ v H', 0 ≤ v → v < n → Drawn p H H' → Q (.int v) H'
def spMuch : Sp := fun vs H Q _ => ∃ p : Addr, vs = [.ref p] ∧ Purse H p ∧ ∀ m H', 1 ≤ m → m < 10 ^ 60 → Drawn p H H' → Q (.int m) H'
section
variable {P : Program} {w : World} {K : PySem.W.Frag} {mg : Str → Option Value} {base : Heap} {f g : Addr} {fd gd' : FuncData}
theorem ok_lawAt (F : Fun K "_law_at" "_law_at" sLawAt f fd) (ml : mg "len" = none) : FnOk P w K mg base CX0 1 f fd ["_law_script", "_law_k"] (spLawAt K) := by
  refine F.ok scLawAt (fun vs H Q E h => ?_) (fun cdv A outer s H vs Q E hr h => ?_)
  · obtain ⟨a, ns, rfl, _⟩ := h
    rfl
  obtain ⟨a, ns, rfl, hs, hl, q⟩ := h
  refine ⟨_, pss_cons (ps_if (pt_cmpR op_lt (pv 1) (pe_callB call_len_seq rfl ml PySem.boot_len (pa_cons (pv 0) pa_nil)) (nomark _)) (pss_one (ps_ret (pe_ix ix_list (pv 0) (pv 1) (fun _ _ => rfl)))) pss_nil) (pss_one (ps_ret pe_int)), ?_⟩
  refine ⟨_, rfl, _, rfl, a, _, rfl, .inl hs, _, _, rfl, rfl, _, rfl, ?_⟩
  refine ite2 (fun c => ?_) (fun c => q 0)
  have c' : (0 : Int) < ((ns.map V.int).length : Nat) := of_decide_eq_true c
  cases ns with
  | nil => exact absurd c' (by decide)
  | cons n ns => exact ⟨_, rfl, _, rfl, a, _, 0, _, rfl, rfl, hs, at_of (j := 0) rfl rfl, q n⟩
theorem ok_purse (F : Fun K "_law_purse" "_law_purse" sPurse f fd) (ma : mg "abs" = none) : FnOk P w K mg base CX0 1 f fd ["_law_cell", "_law_salt"] spPurse := by
  refine F.ok scPurse (fun vs H Q E h => ?_) (fun cdv A outer s H vs Q E hr h => ?_)
  · obtain ⟨c, k, rfl, _⟩ := h
    rfl
  obtain ⟨c, k, rfl, k0, k1, q⟩ := h
  refine ⟨_, pss_cons (ps_set (i := 2) scPurse.nd rfl (.inl rfl) pe_int)
    (pss_cons (ps_if (PW.pt (pw_or (pt_cmpR op_lt (pv 0) pe_int (nomark _)) (pw_or1 (pt_cmpR op_ge (pv 0) (pe_op op_pow pe_int pe_int) (nomark _))))) (pss_one (ps_set (i := 2) scPurse.nd rfl (.inl rfl) (pe_callB call_abs (by rfl) ma (by decide +kernel) (pa_cons (pv 0) pa_nil)))) pss_nil)
    (pss_one (ps_ret (pe_lst (pa_cons (pv 2) (pa_cons (pe_op op_mod (pe_op op_add (pe_op op_add (pe_op op_mod (pv 0) pe_int) (pe_op op_mul (pe_op op_mul pe_int (pv 1)) (pv 1))) pe_int) pe_int) pa_nil)))))), ?_⟩
  have fin : ∀ d : Int, 0 ≤ d → tRet (tLst (tCons (tVar 2) (tCons (tOp (rI (fun _ j => 0 < j) fun i j => .int (i % j)) (tOp (rI0 fun i j => .int (i + j)) (tOp (rI0 fun i j => .int (i + j)) (tOp (rI (fun _ j => 0 < j) fun i j => .int (i % j)) (tVar 0) (tC (.int 2147483629)))
      (tOp (rI CMul fun i j => .int (i * j)) (tOp (rI CMul fun i j => .int (i * j)) (tC (.int 104729)) (tVar 1)) (tVar 1))) (tC (.int 77))) (tC (.int 2147483629))) tNil))) { nx := fun _ H' => Q .non H', rt := Q } [some (.int c), some (.int k), some (.int d)] H := by
    intro d d0
    have b1 : 104729 * k ≤ 10472900 := by omega
    refine ⟨_, rfl, _, rfl, _, _, rfl, rfl, (by show (0 : Int) < _; decide), _, rfl, _, _, rfl, rfl, .inl ⟨by decide, by decide⟩, _, rfl, _, _, rfl, rfl, .inl ⟨by omega, by omega⟩, _, _, rfl, rfl, _, _, rfl, rfl, _, _, rfl, rfl, (by show (0 : Int) < _; decide), by show 2 ≤ sizeLine; decide, fun p hp => ?_⟩
    refine q p _ (same_new hp _) hp ⟨d, _, upd_same, d0, Int.emod_nonneg _ (by decide), Int.emod_lt_of_pos _ (by decide)⟩
  refine ⟨_, rfl, _, _, rfl, rfl, _, rfl, ?_⟩
  by_cases c0 : c < 0
  · rw [decide_eq_true c0]
    refine iteT (iteT ⟨_, rfl, c, rfl, ?_⟩)
    rw [if_pos c0]
    exact fin (-c) (by omega)
  · rw [decide_eq_false c0]
    refine iteF ⟨_, rfl, _, _, rfl, rfl, ⟨by decide, by decide, by decide⟩, _, _, rfl, rfl, _, rfl, ?_⟩
    refine ite2 (fun _ => ⟨_, rfl, c, rfl, ?_⟩) (fun _ => fin 0 (by decide))
    rw [if_neg c0]
    exact fin c (by omega)
theorem ok_draw (F : Fun K "_law_draw" "_law_draw" sDraw f fd) : FnOk P w K mg base CX0 1 f fd ["_law_purse_here", "_law_many_here"] spDraw := by
  refine F.ok scDraw (fun vs H Q E h => ?_) (fun cdv A outer s H vs Q E hr h => ?_)
  · obtain ⟨p, n, rfl, _⟩ := h
    rfl
  obtain ⟨p, n, rfl, ⟨d, k, hp, d0, k0, k1⟩, n1, n2, q⟩ := h
  refine ⟨_, pss_cons (ps_if (pt_cmpR op_gt (pe_ix ix_list (pv 0) pe_int (fun _ _ => rfl)) pe_int (nomark _))
      (pss_cons (ps_set (i := 2) scDraw.nd rfl (.inl rfl) (pe_op op_mod (pe_ix ix_list (pv 0) pe_int (fun _ _ => rfl)) (pv 1)))
      (pss_cons (ps_asg (pe_op op_fdiv (pe_ix ix_list (pv 0) pe_int (fun _ _ => rfl)) (pv 1)) (pg_sub (pv 0) pe_int set_list))
      (pss_one (ps_ret (pv 2))))) pss_nil)
    (pss_cons (ps_asg (pe_op op_mod (pe_op op_add (pe_op op_mul (pe_ix ix_list (pv 0) pe_int (fun _ _ => rfl)) pe_int) pe_int) pe_int) (pg_sub (pv 0) pe_int set_list))
    (pss_cons (ps_set (i := 3) scDraw.nd rfl (.inl rfl) (pe_op op_mod (pe_op op_mul (pe_ix ix_list (pv 0) pe_int (fun _ _ => rfl)) (pe_ix ix_list (pv 0) pe_int (fun _ _ => rfl))) pe_int))
    (pss_one (ps_ret (pe_op op_mod (pe_op op_fdiv (pe_op op_mod (pe_op op_add (pe_op op_mul (pv 3) pe_int) (pe_ix ix_list (pv 0) pe_int (fun _ _ => rfl))) pe_int) pe_int) (pv 1)))))), ?_⟩
  have but : ∀ ys, ∀ b o, b ≠ p → H b = some o → upd H p (.lst ys) b = some o := fun ys b o hb e => by rw [upd_ne hb]; exact e
  refine ⟨_, rfl, p, _, _, _, rfl, rfl, SqL.of hp, at_of (j := 0) rfl rfl, _, _, rfl, rfl, _, rfl, ?_⟩
  refine ite2 (fun c => ?_) (fun c => ?_)
  · refine ⟨_, rfl, p, _, _, _, rfl, rfl, SqL.of hp, at_of (j := 0) rfl rfl, _, rfl, _, _, rfl, rfl, by omega, ?_⟩
    refine ⟨_, rfl, p, _, _, _, rfl, rfl, SqL.of hp, at_of (j := 0) rfl rfl, _, rfl, _, _, rfl, rfl, ⟨by omega, by omega⟩, ?_⟩
    refine ⟨_, rfl, p, _, _, 0, rfl, rfl, hp, rfl, _, rfl, ?_⟩
    exact q _ _ (Int.emod_nonneg _ (by omega)) (Int.emod_lt_of_pos _ (by omega)) ⟨but _, d / n, k, upd_same, Int.ediv_nonneg d0 (by omega), k0, k1⟩
  · have m0 : 0 ≤ (k * 48271 + 2531011) % 2147483629 := Int.emod_nonneg _ (by decide)
    have m1 : (k * 48271 + 2531011) % 2147483629 < 2147483629 := Int.emod_lt_of_pos _ (by decide)
    refine ⟨_, rfl, p, _, _, _, rfl, rfl, SqL.of hp, at_of (j := 1) rfl rfl, _, _, rfl, rfl, .inl ⟨by omega, by omega⟩, _, _, rfl, rfl, _, _, rfl, rfl, (by show (0 : Int) < _; decide), ?_⟩
    refine ⟨_, rfl, p, _, _, 1, rfl, rfl, hp, rfl, ?_⟩
    refine ⟨_, rfl, p, _, _, _, rfl, rfl, SqL.of upd_same, at_of (j := 1) rfl rfl, _, rfl, p, _, _, _, rfl, rfl, SqL.of upd_same, at_of (j := 1) rfl rfl, _, _, rfl, rfl, .inl ⟨by omega, by omega⟩, _, _, rfl, rfl, (by show (0 : Int) < _; decide), ?_⟩
    have y0 : 0 ≤ (((k * 48271 + 2531011) % 2147483629) * ((k * 48271 + 2531011) % 2147483629)) % 2147483587 := Int.emod_nonneg _ (by decide)
    have y1 : (((k * 48271 + 2531011) % 2147483629) * ((k * 48271 + 2531011) % 2147483629)) % 2147483587 < 2147483587 := Int.emod_lt_of_pos _ (by decide)
    refine ⟨_, rfl, _, _, rfl, rfl, .inl ⟨by omega, by omega⟩, _, rfl, p, _, _, _, rfl, rfl, SqL.of upd_same, at_of (j := 1) rfl rfl, _, _, rfl, rfl, _, _, rfl, rfl, (by show (0 : Int) < _; decide), _, _, rfl, rfl, ⟨by decide, by decide⟩, _, rfl, _, _, rfl, rfl, by omega, ?_⟩
    exact q _ _ (Int.emod_nonneg _ (by omega)) (Int.emod_lt_of_pos _ (by omega)) ⟨but _, d, _, upd_same, d0, m0, m1⟩
theorem ok_much (F : Fun K "_law_many" "_law_many" sMuch f fd) (G : FnOk P w K mg base CX0 1 g gd' ["_law_purse_here", "_law_many_here"] spDraw) (bG : Binds K gd' ["_law_purse_here", "_law_many_here"] []) (kG : PySem.W.keepIn K (.ref g) = true) (mG : mg "_law_draw" = some (.ref g))
    (mr : mg "range" = none) (mm : mg "max" = none) : FnOk P w K mg base CX0 2 f fd ["_law_purse_here"] spMuch := by
  refine F.ok scMuch (fun vs H Q E h => ?_) (fun cdv A outer s H vs Q E hr h => ?_)
  · obtain ⟨p, rfl, _⟩ := h
    rfl
  obtain ⟨p, rfl, hp, q⟩ := h
  refine ⟨_, pss_cons (ps_set (i := 1) scMuch.nd rfl (.inl rfl) (pe_call G hr (by rfl) mG kG bG .nil pass0 (pa_cons (pv 0) (pa_cons pe_int pa_nil))))
    (pss_cons (ps_if (pt_cmpR op_eq (pv 1) pe_int (nomark _)) (pss_one (ps_ret pe_int)) pss_nil)
    (pss_cons (ps_if (pt_cmpR op_lt (pv 1) pe_int (nomark _)) (pss_one (ps_ret (pe_op op_add pe_int (pe_call G hr (by rfl) mG kG bG .nil pass0 (pa_cons (pv 0) (pa_cons (pe_ix ix_list (pe_lst (pa_cons pe_int (pa_cons (pe_op op_pow pe_int pe_int) pa_nil))) (pe_op op_sub (pv 1) pe_int) (fun _ _ => rfl)) pa_nil)))))) pss_nil)
    (pss_cons (ps_set (i := 2) scMuch.nd rfl (.inl rfl) pe_int)
    (pss_cons (ps_for PassesOwn.never rfl (pi_range1 (by rfl) mr (pa_cons pe_int pa_nil)) (pg_name (i := 3) scMuch.nd rfl (.inl rfl))
      (pss_one (ps_set (i := 2) scMuch.nd rfl (.inl rfl) (pe_op op_add (pe_op op_mul (pv 2) (pe_op op_pow pe_int pe_int)) (pe_call G hr (by rfl) mG kG bG .nil pass0 (pa_cons (pv 0) (pa_cons (pe_op op_pow pe_int pe_int) pa_nil)))))))
    (pss_one (ps_ret (pe_callB (call_max2 rfl) (by rfl) mm (by decide +kernel) (pa_cons pe_int (pa_cons (pv 2) pa_nil))))))))), ?_⟩
  refine ⟨_, rfl, p, 4, rfl, hp, by decide, by decide, fun v H1 v0 v1 D1 => ?_⟩
  refine ⟨_, rfl, rfl, _, rfl, ?_⟩
  by_cases c0 : v = 0
  · rw [decide_eq_true (show V.int v = V.int 0 by rw [c0])]
    exact iteT (q 1 H1 (by decide) (by decide) D1)
  · rw [decide_eq_false (show ¬ V.int v = V.int 0 from fun z => c0 (V.int.inj z))]
    refine iteF ⟨_, rfl, _, _, rfl, rfl, _, rfl, ?_⟩
    by_cases c3 : v < 3
    · rw [decide_eq_true c3]
      refine iteT ⟨_, rfl, ⟨_, _, rfl, rfl, ⟨by decide, by decide, by decide⟩, by show 2 ≤ sizeLine; decide, fun z hz => ?_⟩⟩
      have D2 : Drawn p H (upd H1 z (.lst [.int 6, .int (10 ^ (6 : Int).toNat)])) := D1.trans (Drawn.of D1.2 (same_new hz _))
      refine ⟨_, rfl, _, _, rfl, rfl, z, _, _, if v - 1 = 0 then .int 6 else .int 1000000, rfl, rfl, SqL.of upd_same, ?_, p, if v - 1 = 0 then 6 else 1000000, ?_, D2.2, ?_, ?_, fun m H2 m0 m1 D3 => ⟨_, _, rfl, rfl, ?_⟩⟩
      · by_cases c1 : v = 1
        · subst c1; rfl
        · have : v = 2 := by omega
          subst this; rfl
      · by_cases c1 : v - 1 = 0
        · rw [if_pos c1, if_pos c1]
          rfl
        · rw [if_neg c1, if_neg c1]
          rfl
      · split <;> omega
      · split <;> omega
      · refine q _ _ (by omega) ?_ (D2.trans D3)
        have : m < 1000000 := by
          split at m1 <;> omega
        have h10 : (1000000 : Int) < 10 ^ 60 := by decide
        omega
    · rw [decide_eq_false c3]
      refine iteF ?_
      refine ⟨10, rfl, by decide, by decide, ?_⟩
      refine for_range (lo := 0) (n := 10) (fun i σ H2 => ∃ (x : Int) (o : Option V), σ = [some (.ref p), some (.int v), some (.int x), o] ∧ 0 ≤ x ∧ x < 10 ^ (6 * i) ∧ Drawn p H H2) ⟨0, none, rfl, by decide, by decide, D1⟩ ?_ ?_
      · rintro i σ H2 hi ⟨x, o, rfl, x0, x1, D2⟩
        refine ⟨_, rfl, ⟨_, _, rfl, rfl, ⟨by decide, by decide, by decide⟩, _, _, rfl, rfl, .inr ⟨by decide, by decide⟩, _, rfl, ⟨_, _, rfl, rfl, ⟨by decide, by decide, by decide⟩, p, 1000000, rfl, D2.2, by decide, by decide, fun y H3 y0 y1 D3 => ⟨_, _, rfl, rfl, ?_⟩⟩⟩⟩
        refine ⟨_, _, rfl, ?_, ?_, D2.trans D3⟩
        · show 0 ≤ x * 10 ^ (6 : Int).toNat + y
          have : (10 : Int) ^ (6 : Int).toNat = 1000000 := by decide
          rw [this]
          omega
        · show x * 10 ^ (6 : Int).toNat + y < 10 ^ (6 * (i + 1))
          have : (10 : Int) ^ (6 : Int).toNat = 1000000 := by decide
          rw [this, show 6 * (i + 1) = 6 * i + 6 by omega, Int.pow_add]
          have : (10 : Int) ^ 6 = 1000000 := by decide
          rw [this]
          omega
      · rintro σ H2 ⟨x, o, rfl, x0, x1, D2⟩
        refine ⟨_, rfl, 1, x, rfl, ?_⟩
        refine q _ _ ?_ ?_ D2
        · split <;> omega
        · split
          · exact x1
          · decide
end
end K11
/-! Qb -/
namespace K11
open PySem L2 Lad
abbrev sLLad : Stmt := topS 47
theorem scLLad : FnScope ["_law_purse_here", "_law_under", "_law_left", "_law_rows", "_law_turn", "_law_exponent", "_law_row"] ["_law_purse_here", "_law_under", "_law_left"] (defScope sLLad) := ⟨rfl, rfl, rfl, by decide +kernel, rfl, by decide +kernel, by decide +kernel⟩
/-- all but two objects as it was -/
def But2 (p q : Addr) (H H' : Hp) : Prop := ∀ b o, b ≠ p → b ≠ q → H b = some o → H' b = some o
theorem But2.trans {p q : Addr} {H H1 H2 : Hp} (a : But2 p q H H1) (b : But2 p q H1 H2) : But2 p q H H2 := fun c o h1 h2 e => b c o h1 h2 (a c o h1 h2 e)
theorem But2.of {p q : Addr} {H H' : Hp} (s : Same H H') : But2 p q H H' := fun b o _ _ e => s b o e
theorem But2.drawn {p q : Addr} {H H' : Hp} (s : Drawn p H H') : But2 p q H H' := fun b o h _ e => s.1 b o h e
theorem But2.gr {p q : Addr} {H H' : Hp} {xs ys : List V} (h : But2 p q H H') (hp : H p = some (.lst xs)) (hq : H q = some (.lst ys)) : Gr H H' := fun a zs e => by
  rcases e with e | ⟨u, e⟩
  · exact .inl (h _ _ (ne_of e hp (fun z => by cases z)) (ne_of e hq (fun z => by cases z)) e)
  · exact .inr ⟨u, h _ _ (ne_of e hp (fun z => by cases z)) (ne_of e hq (fun z => by cases z)) e⟩
/-- a ladder of the law's making -/
structure Nice (n : Nat) (l : Lad) : Prop where
  ok : l.ok = true
  deep : l.deep ≤ n
  gd : gd 60 l
def spLLad (K : PySem.W.Frag) (n : Nat) : Sp := fun vs H Q _ => ∃ (p la : Addr) (k : Int), vs = [.ref p, .int n, .ref la] ∧ 1 ≤ n ∧ n ≤ 12 ∧ Purse H p ∧ p ≠ la ∧ H la = some (.lst [.int k]) ∧ 0 ≤ k ∧ k ≤ 30 ∧
  ∀ v l k' H', But2 p la H H' → Purse H' p → H' la = some (.lst [.int k']) → 0 ≤ k' → LV K H' v l → Nice n l → (l.parts : Int) + k' ≤ k → Q v H'
def rowOk (n : Nat) (r : Row) : Prop := r.1.ok = true ∧ 1 + r.1.deep ≤ n ∧ gd 60 r.1 ∧ 1 ≤ r.2 ∧ r.2 < 10 ^ 60
theorem partsR_cons (p : Row) (l : List Row) : partsR (p :: l) = 1 + p.1.parts + partsR l := by
  unfold partsR
  rw [List.map_cons, List.sum_cons]
theorem partsR_len : ∀ l : List Row, l.length ≤ partsR l
  | [] => Nat.zero_le _
  | p :: l => by
    have := partsR_len l
    rw [partsR_cons, List.length_cons]
    omega
theorem partsR_filter (f : Row → Bool) : ∀ l : List Row, partsR (l.filter f) ≤ partsR l
  | [] => Nat.zero_le _
  | p :: l => by
    have := partsR_filter f l
    rw [List.filter_cons]
    split
    · rw [partsR_cons, partsR_cons]; omega
    · rw [partsR_cons]; omega
theorem partsR_snoc (l : List Row) (p : Row) : partsR (l ++ [p]) = partsR l + (1 + p.1.parts) := by
  unfold partsR
  rw [List.map_append, List.sum_append]
  simp
theorem menu4 : ∀ v : Int, 0 ≤ v → v < 4 → ∃ y : Int, atI ([.int 3, .int 4, .int 5, .int 9] : List V) v = some (.int y) ∧ 1 ≤ y ∧ y ≤ 9 := by
  intro v h0 h1
  have : v = 0 ∨ v = 1 ∨ v = 2 ∨ v = 3 := by omega
  rcases this with rfl | rfl | rfl | rfl
  · exact ⟨3, rfl, by decide, by decide⟩
  · exact ⟨4, rfl, by decide, by decide⟩
  · exact ⟨5, rfl, by decide, by decide⟩
  · exact ⟨9, rfl, by decide, by decide⟩
def nex (e : Lad) (r : Row) : Bool := !decide (r.1 = e)
section
variable {P : Program} {w : World} {K : PySem.W.Frag} {mg : Str → Option Value} {base : Heap} {f g h : Addr} {fd gd' hd' : FuncData}
theorem lLad_step {n : Nat} (F : Fun K "_law_ladder" "_law_ladder" sLLad f fd) (G : FnOk P w K mg base CX0 (n + 2) f fd ["_law_purse_here", "_law_under", "_law_left"] (spLLad K n)) (bG : Binds K fd ["_law_purse_here", "_law_under", "_law_left"] []) (mG : mg "_law_ladder" = some (.ref f))
    (GD : FnOk P w K mg base CX0 1 g gd' ["_law_purse_here", "_law_many_here"] spDraw) (bD : Binds K gd' ["_law_purse_here", "_law_many_here"] []) (kD : PySem.W.keepIn K (.ref g) = true) (mD : mg "_law_draw" = some (.ref g))
    (GM : FnOk P w K mg base CX0 2 h hd' ["_law_purse_here"] spMuch) (bM : Binds K hd' ["_law_purse_here"] []) (kM : PySem.W.keepIn K (.ref h) = true) (mM : mg "_law_many" = some (.ref h))
    (mr : mg "range" = none) (mT : mg "tuple" = none) (mS : mg "sorted" = none) : FnOk P w K mg base CX0 (n + 2 + 1) f fd ["_law_purse_here", "_law_under", "_law_left"] (spLLad K (n + 1)) := by
  refine F.ok scLLad (fun vs H Q E h => ?_) (fun cdv A outer s H vs Q E hr h => ?_)
  · obtain ⟨p, la, k, rfl, _⟩ := h
    rfl
  obtain ⟨p, la, k, rfl, n1, n12, hp, hne, hla, k0, k30, q⟩ := h
  have hrD : Room 1 _ := hr.mono (by omega)
  have hrM : Room 2 _ := hr.mono (by omega)
  refine ⟨_, pss_cons (ps_set (i := 3) scLLad.nd rfl (.inl rfl) (pe_lst pa_nil))
    (pss_cons (ps_for PassesOwn.never rfl (pi_range1 (by rfl) mr (pa_cons (pe_call GD hrD (by rfl) mD kD bD .nil pass0 (pa_cons (pv 0) (pa_cons (pe_ix ix_list (pe_lst (pa_cons pe_int (pa_cons pe_int (pa_cons pe_int (pa_cons pe_int pa_nil))))) (pe_call GD hrD (by rfl) mD kD bD .nil pass0 (pa_cons (pv 0) (pa_cons pe_int pa_nil))) (fun _ _ => rfl)) pa_nil))) pa_nil)) (pg_name (i := 4) scLLad.nd rfl (.inl rfl))
      (pss_one (ps_if (pt_cmpR op_gt (pe_ix ix_list (pv 2) pe_int (fun _ _ => rfl)) pe_int (nomark _))
        (pss_cons (ps_asg (pe_op op_sub (pe_ix ix_list (pv 2) pe_int (fun _ _ => rfl)) pe_int) (pg_sub (pv 2) pe_int set_list))
        (pss_cons (ps_set (i := 5) scLLad.nd rfl (.inr rfl) (pe_tup pa_nil))
        (pss_cons (ps_if (pt_cmpR op_gt (pv 1) pe_int (nomark _)) (pss_one (ps_set (i := 5) scLLad.nd rfl (.inr rfl) (pe_call G hr (by rfl) mG F.kp bG .nil pass0 (pa_cons (pv 0) (pa_cons (pe_op op_sub (pv 1) pe_int) (pa_cons (pv 2) pa_nil)))))) pss_nil)
        (pss_one (ps_set (i := 3) scLLad.nd rfl (.inl rfl) (pe_op op_cat
          (pe_lc (own := [("_law_row", 6)]) (g := gName 6) (tt := tTest (tOp (rNeL K) (tOp (rIxT K) (tVar 6) (tC (.int 0))) (tVar 5))) rfl scLLad.nd (pi_list (pv 3)) (blkOk_by (N := ["_law_purse_here", "_law_under", "_law_left", "_law_rows", "_law_turn", "_law_exponent", "_law_row"]) (sc := defScope sLLad) (by decide +kernel))
            (fun _ _ _ _ _ => pg_name (i := 6) scLLad.nd rfl (Or.inl rfl)) (fun _ _ _ _ _ => pts_one (pt_cmpR (op_neL hr) (pe_ix ix_tup (pv 6) pe_int (fun _ _ => rfl)) (pv 5) (nomark _))) (fun _ _ _ _ _ => pv 6))
          (pe_lst (pa_cons (pe_tup (pa_cons (pv 5) (pa_cons (pe_call GM hrM (by rfl) mM kM bM .nil pass0 (pa_cons (pv 0) pa_nil)) pa_nil))) pa_nil)))))))) pss_nil)))
    (pss_one (ps_ret (pe_callTy call_tuple_of (by rfl) mT (by decide +kernel) (pa_cons (pe_revL (pe_callB (call_sortL hr) (by rfl) mS (by decide +kernel) (pa_cons (pv 3) pa_nil))) pa_nil))))), ?_⟩
  have big : (10000 : Nat) < sizeLine := by decide
  refine ⟨by show 0 ≤ sizeLine; omega, fun R0 hR0 => ?_⟩
  have S0 : Same H (upd H R0 (.lst [])) := same_new hR0 _
  have hR0p : R0 ≠ p := hp.ne hR0
  have hR0l : R0 ≠ la := fun e => by rw [e, hla] at hR0; cases hR0
  refine ⟨_, rfl, by show 4 ≤ sizeLine; omega, fun z hz => ?_⟩
  have S1 := S0.trans (same_new hz (.lst [.int 3, .int 4, .int 5, .int 9]))
  have hzp : z ≠ p := (hp.same S0).ne hz
  refine ⟨_, rfl, p, 4, rfl, hp.same S1, by decide, by decide, fun v H2 v0 v1 D2 => ?_⟩
  obtain ⟨y, hy, y1, y9⟩ := menu4 v v0 v1
  refine ⟨z, _, v, _, rfl, rfl, SqL.of (D2.1 _ _ hzp upd_same), hy, p, y, rfl, D2.2, y1, by omega, fun u H3 u0 u1 D3 => ?_⟩
  have D23 := D2.trans D3
  refine ⟨u, rfl, by omega, by omega, ?_⟩
  refine for_range (lo := 0) (n := u.toNat) (fun i σ H' => ∃ (xs : List V) (rows : List Row) (R : Addr) (k' : Int) (o4 o5 : Option V), σ = [some (.ref p), some (.int (n + 1 : Nat)), some (.ref la), some (.ref R), o4, o5, none] ∧ But2 p la H H' ∧ Purse H' p ∧ H' la = some (.lst [.int k']) ∧ 0 ≤ k' ∧ H' R = some (.lst xs) ∧ R ≠ p ∧ R ≠ la ∧
      PVs K H' xs rows ∧ (rows.map Prod.fst).Nodup ∧ (∀ r ∈ rows, rowOk (n + 1) r) ∧ (partsR rows : Int) + k' ≤ k) ?_ ?_ ?_
  · refine ⟨[], [], R0, k, none, none, rfl, (But2.of S1).trans (But2.drawn D23), D3.2, D23.1 _ _ (Ne.symm hne) (S1 _ _ hla), k0, D23.1 _ _ hR0p ?_, hR0p, hR0l, .nil, by simp, (fun r hr => nomatch hr), by show ((0 : Nat) : Int) + k ≤ k; omega⟩
    rw [upd_ne (ne_of_none (upd_same (H := H) (a := R0) (o := .lst [])) hz)]
    exact upd_same
  · rintro i σ H4 hi ⟨xs, rows, R, k', o4, o5, rfl, B4, P4, L4, k'0, hR, hRp, hRl, hxs, hnd, hok, hpar⟩
    have hplen := partsR_len rows
    refine ⟨_, rfl, la, _, 0, _, rfl, rfl, SqL.of L4, rfl, _, _, rfl, rfl, _, rfl, ?_⟩
    refine ite2 (fun c => ?_) (fun c => ⟨xs, rows, R, k', _, o5, rfl, B4, P4, L4, k'0, hR, hRp, hRl, hxs, hnd, hok, hpar⟩)
    have c' : 0 < k' := of_decide_eq_true c
    refine ⟨_, rfl, la, _, 0, _, rfl, rfl, SqL.of L4, rfl, _, _, rfl, rfl, ?_⟩
    refine ⟨_, rfl, la, _, 0, 0, rfl, rfl, L4, rfl, ?_⟩
    -- left is one less
    have G5 : Gr H4 (upd H4 la (.lst [.int (k' - 1)])) := gr_lst L4 _
    have B5 : But2 p la H (upd H4 la (.lst [.int (k' - 1)])) := B4.trans fun b o _ h2 e => by rw [upd_ne h2]; exact e
    have P5 : Purse (upd H4 la (.lst [.int (k' - 1)])) p := by
      obtain ⟨d, s, e, r⟩ := P4
      exact ⟨d, s, by rw [upd_ne hne]; exact e, r⟩
    have R5 : upd H4 la (.lst [.int (k' - 1)]) R = some (.lst xs) := by rw [upd_ne hRl]; exact hR
    have X5 : PVs K (upd H4 la (.lst [.int (k' - 1)])) xs rows := hxs.gr G5
    have L5 : upd H4 la (.lst [.int (k' - 1)]) la = some (.lst [.int (k' - 1)]) := upd_same
    show tSeq _ _ _ _ (upd H4 la (.lst [.int (k' - 1)]))
    generalize upd H4 la (.lst [.int (k' - 1)]) = H5 at B5 P5 R5 X5 L5
    refine ⟨by show 0 ≤ sizeLine; omega, fun e0 he0 => ?_⟩
    have S6 : Same H5 (upd H5 e0 (.tup [])) := same_new he0 _
    -- behind the exponent: ve, e
    have fin : ∀ (ve : V) (e : Lad) (k2 : Int) (H7 : Hp), But2 p la H5 H7 → Purse H7 p → H7 la = some (.lst [.int k2]) → 0 ≤ k2 → LV K H7 ve e → Nice n e → (e.parts : Int) + k2 ≤ k' - 1 →
        tAsg (tOp rCat (tLc (iList K (tVar 3)) (gName 6) (tTest (tOp (rNeL K) (tOp (rIxT K) (tVar 6) (tC (.int 0))) (tVar 5))) (tVar 6) [6]) (tLst (tCons (tTup (tCons (tVar 5) (tCons (tCall spMuch [] E0 (tCons (tVar 0) tNil)) tNil))) tNil))) (gName 3)
          { nx := fun σ H' => ∃ (xs : List V) (rows : List Row) (R : Addr) (k' : Int) (o4 o5 : Option V), σ = [some (.ref p), some (.int (n + 1 : Nat)), some (.ref la), some (.ref R), o4, o5, none] ∧ But2 p la H H' ∧ Purse H' p ∧ H' la = some (.lst [.int k']) ∧ 0 ≤ k' ∧ H' R = some (.lst xs) ∧ R ≠ p ∧ R ≠ la ∧
              PVs K H' xs rows ∧ (rows.map Prod.fst).Nodup ∧ (∀ r ∈ rows, rowOk (n + 1) r) ∧ (partsR rows : Int) + k' ≤ k, rt := Q, bk := fun _ _ => True, ct := fun _ _ => True }
          [some (.ref p), some (.int (n + 1 : Nat)), some (.ref la), some (.ref R), some (.int (0 + i)), some ve, none] H7 := by
      intro ve e k2 H7 B7 P7 L7 k20 lve nice hpar2
      obtain ⟨d5, s5, e5, _⟩ := id P5
      have G7 : Gr H5 H7 := B7.gr e5 L5
      have R7 : H7 R = some (.lst xs) := B7 _ _ hRp hRl R5
      have X7 := X5.gr G7
      have hxl := Paired.len X7
      refine ⟨_, rfl, R, rfl, ⟨xs, SqL.of R7⟩, fun D hD => ?_⟩
      refine lc_list (K := K) (a := R) (xs := xs) (fun i H' => Same H7 H' ∧ ∃ ys, H' D = some (.lst ys) ∧ PVs K H7 ys ((rows.take i).filter (nex e)) ∧ ys.length ≤ i) ⟨same_new hD _, [], upd_same, .nil, Nat.le_refl _⟩ (fun i H' _ ⟨S', _⟩ => SqL.of (S' _ _ R7)) ?_ ?_
      · rintro j x H8 hx ⟨S8, ys, hys, pys, hyl⟩
        obtain ⟨⟨re, rm⟩, hr1, p', ve', rfl, s', t'⟩ := Paired.get X7 hx
        have hj : j < rows.length := (List.getElem?_eq_some_iff.mp hr1).1
        have hokr := hok (re, rm) (List.mem_of_getElem? hr1)
        refine ⟨rfl, _, rfl, p', _, 0, _, rfl, rfl, SqT.same S8 s', rfl, _, rfl, re, e, LV.gr (Same.gr S8) t', LV.gr (Same.gr S8) lve, .inl (by have h1 : 1 + re.deep ≤ n + 1 := hokr.2.1; omega), _, rfl, ?_⟩
        have tk : (rows.take (j + 1)).filter (nex e) = (rows.take j).filter (nex e) ++ (if nex e (re, rm) then [(re, rm)] else []) := by
          rw [take_snoc hr1, List.filter_append, List.filter_cons, List.filter_nil]
        by_cases he : re = e
        · rw [decide_eq_true he]
          refine iteF ⟨S8, ys, hys, ?_, by omega⟩
          rw [tk, if_neg (by simp [nex, he]), List.append_nil]
          exact pys
        · rw [decide_eq_false he]
          refine iteT ⟨_, rfl, ys, hys, by omega, Same.upd_at hD S8 _, _, upd_same, ?_, by rw [List.length_append]; show ys.length + 1 ≤ _; omega⟩
          rw [tk, if_pos (by simp [nex, he])]
          exact Paired.app pys (.cons ⟨p', ve', rfl, s', t'⟩ .nil)
      · rintro H8 ⟨S8, ys, hys, pys, hyl⟩
        rw [List.take_of_length_le (by omega)] at pys
        have P8 := P7.same S8
        refine ⟨_, rfl, _, rfl, p, rfl, P8, fun m H9 m1 m2 D9 => ?_⟩
        refine ⟨by show 2 ≤ sizeLine; omega, fun t1 ht1 => ⟨by show 1 ≤ sizeLine; omega, fun l1 hl1 => ?_⟩⟩
        have S10 : Same H9 (upd (upd H9 t1 (.tup [ve, .int m])) l1 (.lst [.ref t1])) := (same_new ht1 _).trans (same_new hl1 _)
        have hDp : D ≠ p := P7.ne hD
        have hDl : D ≠ la := fun z => by rw [z, L7] at hD; cases hD
        have D9y : H9 D = some (.lst ys) := D9.1 _ _ hDp hys
        have hyl2 := Paired.len pys
        refine ⟨D, l1, ys, [.ref t1], rfl, rfl, S10 _ _ D9y, upd_same, by show ys.length + 1 ≤ sizeLine; omega, fun R2 hR2 => ?_⟩
        have S11 := S10.trans (same_new hR2 (.lst (ys ++ [.ref t1])))
        have g7 : Gr H7 (upd (upd (upd H9 t1 (.tup [ve, .int m])) l1 (.lst [.ref t1])) R2 (.lst (ys ++ [.ref t1]))) := ((Same.gr S8).trans (Drawn.gr P8 D9)).trans (Same.gr S11)
        have pt1 : PV K (upd (upd (upd H9 t1 (.tup [ve, .int m])) l1 (.lst [.ref t1])) R2 (.lst (ys ++ [.ref t1]))) (.ref t1) e m :=
          PV.mk' (SqT.of ((same_new hl1 _).trans (same_new hR2 _) _ _ upd_same)) (LV.gr g7 lve)
        have hpf := partsR_filter (nex e) rows
        refine ⟨ys ++ [.ref t1], rows.filter (nex e) ++ [(e, m)], R2, k2, _, _, rfl, ?_, (D9.2).same S11, S11 _ _ (D9.1 _ _ (Ne.symm hne) (S8 _ _ L7)), k20, upd_same, ?_, ?_, Paired.app (PVs.gr g7 pys) (.cons pt1 .nil), ?_, ?_, ?_⟩
        · exact ((B5.trans B7).trans (But2.of S8)).trans ((But2.drawn D9).trans (But2.of S11))
        · exact ((D9.2).same S10).ne hR2
        · exact fun z => by rw [z, S10 _ _ (D9.1 _ _ (Ne.symm hne) (S8 _ _ L7))] at hR2; cases hR2
        · rw [List.map_append, List.nodup_append]
          refine ⟨(List.filter_sublist.map Prod.fst).nodup hnd, by simp, ?_⟩
          intro a ha b hb
          have eb : b = e := by simpa using hb
          subst eb
          obtain ⟨r, hr1, rfl⟩ := List.mem_map.mp ha
          have := (List.mem_filter.mp hr1).2
          intro z
          simp [nex, z] at this
        · intro r hr1
          rcases List.mem_append.mp hr1 with hr1 | hr1
          · exact hok r (List.mem_filter.mp hr1).1
          · have er : r = (e, m) := by simpa using hr1
            subst er
            exact ⟨nice.ok, by have := nice.deep; show 1 + e.deep ≤ n + 1; omega, nice.gd, m1, m2⟩
        · rw [partsR_snoc]
          show ((partsR (rows.filter (nex e)) + (1 + e.parts) : Nat) : Int) + k2 ≤ k
          omega
    refine ⟨_, rfl, _, _, rfl, rfl, _, rfl, ?_⟩
    by_cases hn : n = 0
    · subst hn
      rw [decide_eq_false (show ¬ (1 : Int) < ((0 + 1 : Nat) : Int) by decide)]
      refine iteF ?_
      exact fin (.ref e0) .nil (k' - 1) _ (But2.of S6) (P5.same S6) (S6 _ _ L5) (by omega) (LV.nil (SqT.of upd_same)) ⟨rfl, Nat.le_refl _, trivial⟩ (by show ((0 : Nat) : Int) + _ ≤ _; omega)
    · rw [decide_eq_true (show (1 : Int) < ((n + 1 : Nat) : Int) by omega)]
      refine iteT ⟨_, rfl, _, rfl, _, _, rfl, rfl, _, rfl, p, la, k' - 1, ?_, by omega, by omega, P5.same S6, hne, S6 _ _ L5, by omega, by omega, fun ve e k2 H7 B7 P7 L7 k20 lve nice hpar2 => ?_⟩
      · show [V.ref p, V.int (((n + 1 : Nat) : Int) - 1), V.ref la] = _
        rw [show ((n + 1 : Nat) : Int) - 1 = (n : Int) by omega]
      · exact fin ve e k2 H7 ((But2.of S6).trans B7) P7 L7 k20 lve nice hpar2
  · rintro σ H4 ⟨xs, rows, R, k', o4, o5, rfl, B4, P4, L4, k'0, hR, hRp, hRl, hxs, hnd, hok, hpar⟩
    have hplen := partsR_len rows
    refine ⟨_, rfl, R, xs, rows, rfl, SqL.of hR, hxs, by omega, fun r hr1 => by have := (hok r hr1).2.1; omega, fun p1 ys hp1 hys => ?_⟩
    refine ⟨p1, ys, rfl, SqL.of upd_same, fun p2 hp2 => ?_⟩
    refine ⟨p2, _, rfl, .inl ⟨SqL.of upd_same, fun p3 hp3 => ?_⟩⟩
    have SS : Same H4 (upd (upd (upd H4 p1 (.lst ys)) p2 (.lst ys.reverse)) p3 (.tup ys.reverse)) := ((same_new hp1 _).trans (same_new hp2 _)).trans (same_new hp3 _)
    obtain ⟨s1, s2, s3, s4⟩ := sorted_ok (n := n + 1) (w := 60) hnd hok
    refine q (.ref p3) (K11.sorted rows) k' _ (B4.trans (But2.of SS)) (P4.same SS) (SS _ _ L4) k'0 ⟨p3, _, rfl, SqT.of upd_same, ?_⟩ ⟨s1, s2, s3⟩ (by rw [s4]; exact hpar)
    exact PVs.lvs (PVs.gr (Same.gr SS) (Paired.rev hys))
theorem lLad_none {k : Nat} : FnOk P w K mg base CX0 k f fd ["_law_purse_here", "_law_under", "_law_left"] (spLLad K 0) := by
  have no : ∀ vs H Q E, ¬ spLLad K 0 vs H Q E := fun vs H Q E h => by
    obtain ⟨_, _, _, _, h1, _⟩ := h
    omega
  exact ⟨fun vs H Q E h => absurd h (no vs H Q E), fun A outer s H args us vs Q E _ _ _ _ h => absurd h (no vs H Q E)⟩
end
end K11
/-! Qc -/
namespace K11
open PySem L2 Lad
abbrev sAlike : Stmt := topS 48
abbrev sLIs : Stmt := topS 49
theorem scAlike : FnScope ["_law_found", "_law_due_here", "_law_one", "_law_other"] ["_law_found", "_law_due_here"] (defScope sAlike) := ⟨rfl, rfl, rfl, by decide +kernel, rfl, by decide +kernel, by decide +kernel⟩
theorem scLIs : FnScope ["_law_thing", "_law_pair", "_law_k"] ["_law_thing"] (defScope sLIs) := ⟨rfl, rfl, rfl, by decide +kernel, rfl, by decide +kernel, by decide +kernel⟩
/-- alike, to the depth n -/
def AL (K : PySem.W.Frag) (H : Hp) : Nat → V → V → Prop
  | 0, _, _ => False
  | n + 1, v, v' => (∃ i, v = .int i ∧ v' = .int i) ∨ ∃ a b xs ys, v = .ref a ∧ v' = .ref b ∧ SqT K H a xs ∧ SqT K H b ys ∧ xs.length = ys.length ∧ xs.length ≤ 1000000 ∧ ∀ (i : Nat) (x y : V), xs[i]? = some x → ys[i]? = some y → AL K H n x y
theorem AL.gr {K : PySem.W.Frag} {H H' : Hp} (g : Gr H H') : ∀ {n : Nat} {v v' : V}, AL K H n v v' → AL K H' n v v'
  | 0, _, _, h => h
  | n + 1, v, v', h => by
    rcases h with h | ⟨a, b, xs, ys, e1, e2, h1, h2, h3, h4, h5⟩
    · exact .inl h
    · exact .inr ⟨a, b, xs, ys, e1, e2, SqT.gr g h1, SqT.gr g h2, h3, h4, fun i x y hx hy => AL.gr g (h5 i x y hx hy)⟩
theorem LVs.al {K : PySem.W.Frag} {H : Hp} : ∀ {l : Lad} {n : Nat} {xs ys : List V}, LVs K H xs l → LVs K H ys l → l.parts ≤ 1000000 → 2 * l.deep ≤ n → ∀ (i : Nat) (x y : V), xs[i]? = some x → ys[i]? = some y → AL K H n x y
  | .nil, _, xs, ys, h, _, _, _, i, x, y, hx, _ => by
    rw [show xs = [] from h] at hx
    cases hx
  | .cons e m r, n, xs, ys, h, h', hp, hn, i, x, y, hx, hy => by
    have m1 : 1 + e.deep ≤ (Lad.cons e m r).deep := Nat.le_max_left _ _
    have m2 : r.deep ≤ (Lad.cons e m r).deep := Nat.le_max_right _ _
    have p1 : 1 + e.parts + r.parts ≤ 1000000 := hp
    obtain ⟨p, a, us, zs, rfl, s1, s2, h2, h3⟩ := h
    obtain ⟨p', a', us', zs', rfl, s1', s2', h2', h3'⟩ := h'
    cases i with
    | succ i => exact LVs.al h3 h3' (by omega) (by omega) i x y (by simpa using hx) (by simpa using hy)
    | zero =>
      cases hx
      cases hy
      obtain ⟨n, rfl⟩ : ∃ k, n = k + 2 := ⟨n - 2, by omega⟩
      refine .inr ⟨p, p', _, _, rfl, rfl, s1, s1', rfl, by show 2 ≤ 1000000; decide, fun j u w hu hw => ?_⟩
      have l1 := h2.len
      have l2 := h2'.len
      have lp := len_parts e
      match j, hu, hw with
      | 0, hu, hw =>
        cases hu
        cases hw
        exact .inr ⟨a, a', us, us', rfl, rfl, s2, s2', by omega, by omega, LVs.al h2 h2' (by omega) (by omega)⟩
      | 1, hu, hw =>
        cases hu
        cases hw
        exact .inl ⟨m, rfl, rfl⟩
      | j + 2, hu, _ => cases hu
theorem LV.al {K : PySem.W.Frag} {H : Hp} {l : Lad} {n : Nat} {v v' : V} (h : LV K H v l) (h' : LV K H v' l) (hp : l.parts ≤ 1000000) (hn : 2 * l.deep ≤ n) : AL K H (n + 1) v v' := by
  obtain ⟨a, xs, rfl, s, t⟩ := h
  obtain ⟨a', xs', rfl, s', t'⟩ := h'
  have l1 := t.len
  have l2 := t'.len
  have lp := len_parts l
  exact .inr ⟨a, a', xs, xs', rfl, rfl, s, s', by omega, by omega, LVs.al t t' hp hn⟩
def spAlike (K : PySem.W.Frag) (n : Nat) : Sp := fun vs H Q _ => ∃ v v' : V, vs = [v, v'] ∧ AL K H n v v' ∧ ∀ H', Same H H' → Q (.bl true) H'
section
variable {P : Program} {w : World} {K : PySem.W.Frag} {mg : Str → Option Value} {base : Heap} {f : Addr} {fd : FuncData}
theorem alike_step {n : Nat} (F : Fun K "_law_alike" "_law_alike" sAlike f fd) (G : FnOk P w K mg base CX0 n f fd ["_law_found", "_law_due_here"] (spAlike K n)) (bG : Binds K fd ["_law_found", "_law_due_here"] []) (mG : mg "_law_alike" = some (.ref f))
    (mi : mg "isinstance" = none) (mt : mg "tuple" = none) (mI : mg "int" = none) (mB : mg "bool" = none) (ml : mg "len" = none) (ma : mg "all" = none) (mz : mg "zip" = none) : FnOk P w K mg base CX0 (n + 1) f fd ["_law_found", "_law_due_here"] (spAlike K (n + 1)) := by
  refine F.ok scAlike (fun vs H Q E h => ?_) (fun cdv A outer s H vs Q E hr h => ?_)
  · obtain ⟨v, v', rfl, _⟩ := h
    rfl
  obtain ⟨v, v', rfl, hal, q⟩ := h
  refine ⟨_, pss_cons (ps_if (pt_val (pe_callB call_isi (by rfl) mi (by decide +kernel) (pa_cons (pv 1) (pa_cons (pe_bltn (v := .ty "tuple") (by rfl) mt (by decide +kernel) rfl) pa_nil))))
      (pss_one (ps_ret (pe_and (pe_callB call_isi (by rfl) mi (by decide +kernel) (pa_cons (pv 0) (pa_cons (pe_bltn (v := .ty "tuple") (by rfl) mt (by decide +kernel) rfl) pa_nil)))
        (pe_and (pe_cmpR op_eq (pe_callB call_len_seq rfl ml PySem.boot_len (pa_cons (pv 0) pa_nil)) (pe_callB call_len_seq rfl ml PySem.boot_len (pa_cons (pv 1) pa_nil)) (nomark _))
        (pe_one (pe_callB (cr_all rfl) (by rfl) ma (by decide +kernel) (pa_cons (pe_lc (own := [("_law_one", 2), ("_law_other", 3)]) (g := gTup K 2 (gCons (gName 2) (gCons (gName 3) gNil))) (tt := tYes) rfl scAlike.nd (RZ.pi_zipA (by rfl) mz (pa_cons (pv 0) (pa_cons (pv 1) pa_nil)))
          (blkOk_by (N := ["_law_found", "_law_due_here", "_law_one", "_law_other"]) (sc := defScope sAlike) (by decide +kernel))
          (fun _ _ _ _ _ => pg_tup rfl (pgs_cons (pg_name (i := 2) scAlike.nd rfl (Or.inl rfl)) (pgs_cons (pg_name (i := 3) scAlike.nd rfl (Or.inl rfl)) pgs_nil))) (fun _ _ _ _ _ => pts_nil)
          (fun _ _ _ _ _ => pe_call G hr rfl mG F.kp bG .nil pass0 (pa_cons (pv 2) (pa_cons (pv 3) pa_nil)))) pa_nil))))))) pss_nil)
    (pss_one (ps_ret (pe_and (pe_callB call_isi (by rfl) mi (by decide +kernel) (pa_cons (pv 0) (pa_cons (pe_bltn (v := .ty "int") (by rfl) mI (by decide +kernel) rfl) pa_nil)))
      (pe_and (pe_not (pe_callB call_isi (by rfl) mi (by decide +kernel) (pa_cons (pv 0) (pa_cons (pe_bltn (v := .ty "bool") (by rfl) mB (by decide +kernel) rfl) pa_nil))))
      (pe_one (pe_cmpR op_eq (pv 0) (pv 1) (nomark _))))))), ?_⟩
  rcases hal with ⟨i, rfl, rfl⟩ | ⟨a, b, xs, ys, rfl, rfl, s1, s2, hl, hz, hal⟩
  · refine ⟨_, rfl, _, _, _, _, false, rfl, .ty "tuple", .base (.int i), kit_int_tup, _, rfl, iteF ?_⟩
    refine ⟨_, rfl, _, _, _, _, true, rfl, .ty "int", .base (.int i), kit_int_int, true, rfl, iteT ?_⟩
    refine ⟨_, rfl, _, _, _, _, false, rfl, .ty "bool", .base (.int i), kit_int_bool, false, rfl, true, rfl, iteT ?_⟩
    refine ⟨_, rfl, _, rfl, rfl, ?_⟩
    have := q H (Same.refl _)
    rw [show decide (V.int i = V.int i) = true from decide_eq_true rfl]
    exact this
  · refine ⟨_, rfl, _, _, _, _, true, rfl, .ty "tuple", ty_tup s2, kit_tup_tup, _, rfl, iteT ?_⟩
    refine ⟨_, rfl, _, _, _, _, true, rfl, .ty "tuple", ty_tup s1, kit_tup_tup, true, rfl, iteT ?_⟩
    refine ⟨_, rfl, a, _, rfl, .inr s1, _, rfl, b, _, rfl, .inr s2, rfl, true, ?_, iteT ?_⟩
    · rw [hl]
      exact congrArg V.bl (decide_eq_true rfl)
    refine ⟨_, rfl, _, rfl, a, b, xs, ys, rfl, .inr ⟨s1, s2, fun D hD => ?_⟩⟩
    refine lc_zipS hD s1 s2 hl hz ((List.replicate xs.length true).map V.bl) (by simp) (fun i x y z Tp H' C hx hy hz' S hT hC => ?_) (fun H1 S1 e1 => ?_)
    · have ez : z = V.bl true := by
        rw [List.getElem?_map, List.getElem?_replicate] at hz'
        split at hz'
        · exact (Option.some.inj hz').symm
        · cases hz'
      subst ez
      exact ⟨Tp, _, rfl, SqT.of hT, rfl, _, _, rfl, _, _, rfl, rfl, rfl, _, rfl, _, rfl, x, y, rfl, AL.gr (Same.gr S) (hal i x y hx hy), hC⟩
    · refine ⟨D, List.replicate xs.length true, rfl, SqL.of e1, ?_⟩
      have : (List.replicate xs.length true).all id = true := by simp
      rw [this]
      exact q H1 S1
theorem alike_none {k : Nat} : FnOk P w K mg base CX0 k f fd ["_law_found", "_law_due_here"] (spAlike K 0) := by
  have no : ∀ vs H Q E, ¬ spAlike K 0 vs H Q E := fun vs H Q E h => by
    obtain ⟨_, _, _, h1, _⟩ := h
    exact h1
  exact ⟨fun vs H Q E h => absurd h (no vs H Q E), fun A outer s H args us vs Q E _ _ _ _ h => absurd h (no vs H Q E)⟩
theorem ok_alike (F : Fun K "_law_alike" "_law_alike" sAlike f fd) (bG : Binds K fd ["_law_found", "_law_due_here"] []) (mG : mg "_law_alike" = some (.ref f))
    (mi : mg "isinstance" = none) (mt : mg "tuple" = none) (mI : mg "int" = none) (mB : mg "bool" = none) (ml : mg "len" = none) (ma : mg "all" = none) (mz : mg "zip" = none) : ∀ n : Nat, FnOk P w K mg base CX0 n f fd ["_law_found", "_law_due_here"] (spAlike K n)
  | 0 => alike_none
  | n + 1 => alike_step F (ok_alike F bG mG mi mt mI mB ml ma mz n) bG mG mi mt mI mB ml ma mz
end
end K11
/-! Qd -/
namespace K11
open PySem L2 Lad
theorem all_take_false {fs : List Bool} {i : Nat} (h : fs[i]? = some false) : fs.all id = false := by
  rw [List.all_eq_false]
  exact ⟨false, List.mem_of_getElem? h, by decide⟩
theorem all_take_step {fs : List Bool} {i : Nat} (h : (fs.take i).all id = true) (h2 : fs[i]? = some true) : (fs.take (i + 1)).all id = true := by
  rw [take_snoc h2, List.all_append, h]
  rfl
section
variable {P : Program} {w : World} {K : PySem.W.Frag} {mg : Str → Option Value} {base : Heap} {f : Addr} {fd : FuncData}
theorem lIs_step {n : Nat} (F : Fun K "_law_is_ladder" "_law_is_ladder" sLIs f fd) (G : FnOk P w K mg base CX0 n f fd ["_law_thing"] (spIsLad K n)) (bG : Binds K fd ["_law_thing"] []) (mG : mg "_law_is_ladder" = some (.ref f))
    (mi : mg "isinstance" = none) (mt : mg "tuple" = none) (mI : mg "int" = none) (mB : mg "bool" = none) (ml : mg "len" = none) (ma : mg "all" = none) (mr : mg "range" = none) : FnOk P w K mg base CX0 (n + 1) f fd ["_law_thing"] (spIsLad K (n + 1)) := by
  refine F.ok scLIs (fun vs H Q E h => ?_) (fun cdv A outer s H vs Q E hr h => ?_)
  · obtain ⟨v, l, rfl, _⟩ := h
    rfl
  obtain ⟨v, l, rfl, hl, hd, hn8, hz, q⟩ := h
  refine ⟨_, pss_cons (ps_if (pt_not (pt_val (pe_callB call_isi (by rfl) mi (by decide +kernel) (pa_cons (pv 0) (pa_cons (pe_bltn (v := .ty "tuple") (by rfl) mt (by decide +kernel) rfl) pa_nil))))) (pss_one (ps_ret pe_bl)) pss_nil)
    (pss_cons (ps_for PassesOwn.never rfl (pi_tup (pv 0)) (pg_name (i := 1) scLIs.nd rfl (.inl rfl))
      (pss_cons (ps_if (PW.pt (pw_or (pt_not (pt_val (pe_callB call_isi (by rfl) mi (by decide +kernel) (pa_cons (pv 1) (pa_cons (pe_bltn (v := .ty "tuple") (by rfl) mt (by decide +kernel) rfl) pa_nil)))))
          (pw_or (pt_cmpR op_ne (pe_callB call_len_seq rfl ml PySem.boot_len (pa_cons (pv 1) pa_nil)) pe_int (nomark _))
          (pw_or1 (pt_not (pt_val (pe_call G hr rfl mG F.kp bG .nil pass0 (pa_cons (pe_ix ix_tup (pv 1) pe_int (fun _ _ => rfl)) pa_nil)))))))) (pss_one (ps_ret pe_bl)) pss_nil)
      (pss_one (ps_if (PW.pt (pw_or (pt_not (pt_val (pe_callB call_isi (by rfl) mi (by decide +kernel) (pa_cons (pe_ix ix_tup (pv 1) pe_int (fun _ _ => rfl)) (pa_cons (pe_bltn (v := .ty "int") (by rfl) mI (by decide +kernel) rfl) pa_nil)))))
          (pw_or (pt_val (pe_callB call_isi (by rfl) mi (by decide +kernel) (pa_cons (pe_ix ix_tup (pv 1) pe_int (fun _ _ => rfl)) (pa_cons (pe_bltn (v := .ty "bool") (by rfl) mB (by decide +kernel) rfl) pa_nil))))
          (pw_or1 (pt_cmpR op_lt (pe_ix ix_tup (pv 1) pe_int (fun _ _ => rfl)) pe_int (nomark _)))))) (pss_one (ps_ret pe_bl)) pss_nil))))
    (pss_one (ps_ret (pe_callB (cr_all rfl) (by rfl) ma (by decide +kernel) (pa_cons (pe_lc (own := [("_law_k", 2)]) (g := gName 2) (tt := tYes) rfl scLIs.nd (pi_range2 (by rfl) mr (pa_cons pe_int (pa_cons (pe_callB call_len_seq rfl ml PySem.boot_len (pa_cons (pv 0) pa_nil)) pa_nil)))
      (blkOk_by (N := ["_law_thing", "_law_pair", "_law_k"]) (sc := defScope sLIs) (by decide +kernel)) (fun _ _ _ _ _ => pg_name (i := 2) scLIs.nd rfl (Or.inl rfl)) (fun _ _ _ _ _ => pts_nil)
      (fun _ _ _ _ _ => pe_cmpR (show OpR _ _ (rLtL K) from op_ltL hr) (pe_ix (show IxR _ (rIxT K) from ix_tup) (pe_ix (show IxR _ (rIxT K) from ix_tup) (pv 0) (pv 2) (fun _ _ => rfl)) pe_int (fun _ _ => rfl))
        (pe_ix (show IxR _ (rIxT K) from ix_tup) (pe_ix (show IxR _ (rIxT K) from ix_tup) (pv 0) (pe_op op_sub (pv 2) pe_int) (fun _ _ => rfl)) pe_int (fun _ _ => rfl)) (nomark _))) pa_nil))))), ?_⟩
  obtain ⟨a, xs, rfl, ha, hxs⟩ := hl
  have hlen := hxs.len
  have hlp := len_parts l
  refine ⟨_, rfl, _, _, _, _, true, rfl, .ty "tuple", ty_tup ha, kit_tup_tup, true, rfl, iteF ?_⟩
  refine ⟨_, rfl, a, rfl, ⟨xs, ha⟩, ?_⟩
  refine for_tup (xs := xs) (fun i σ H' => Same H H' ∧ (∃ o, σ = [some (.ref a), o, none]) ∧ ((flags l).take i).all id = true) ⟨Same.refl H, ⟨none, rfl⟩, rfl⟩ (fun i σ H' _ h => SqT.same h.1 ha) ?_ ?_
  · rintro i x σ H1 hx ⟨S1, ⟨o, rfl⟩, hall⟩
    obtain ⟨e, m, hrow, p, ve, rfl, s1, t1⟩ := hxs.at hx
    have hra := row_at hrow
    have hf : (flags l)[i]? = some (flag (e, m)) := by unfold flags; rw [List.getElem?_map, hrow]; rfl
    have bad : flag (e, m) = false → ∀ H', Same H H' → Q (.bl false) H' := fun hb H' S' => by
      have := q H' S'
      rw [ok_eq, all_take_false (by rw [hf, hb])] at this
      exact this
    refine ⟨_, rfl, _, _, _, _, true, rfl, .ty "tuple", ty_tup (SqT.same S1 s1), kit_tup_tup, true, rfl, iteF ?_⟩
    refine ⟨_, rfl, p, _, rfl, .inr (SqT.same S1 s1), rfl, false, rfl, iteF ?_⟩
    refine ⟨_, rfl, p, _, _, _, rfl, rfl, SqT.same S1 s1, rfl, ve, e, rfl, LV.gr (Same.gr S1) t1, by omega, by omega, by omega, fun H2 S2 => ⟨_, rfl, ?_⟩⟩
    have S12 := S1.trans S2
    cases ho : e.ok with
    | false => exact iteT (bad (by simp [flag, ho]) H2 S12)
    | true =>
      refine iteF ?_
      refine ⟨_, rfl, p, _, _, _, rfl, rfl, SqT.same S12 s1, rfl, _, _, _, _, true, rfl, .ty "int", .base (.int m), kit_int_int, true, rfl, iteF ?_⟩
      refine ⟨_, rfl, p, _, _, _, rfl, rfl, SqT.same S12 s1, rfl, _, _, _, _, false, rfl, .ty "bool", .base (.int m), kit_int_bool, false, rfl, iteF ?_⟩
      refine ⟨_, rfl, p, _, _, _, rfl, rfl, SqT.same S12 s1, rfl, _, _, rfl, rfl, _, rfl, ?_⟩
      by_cases hm : m < 1
      · rw [decide_eq_true hm]
        exact iteT (bad (by simp [flag, ho]; omega) H2 S12)
      · rw [decide_eq_false hm]
        exact iteF ⟨S12, ⟨_, rfl⟩, all_take_step hall (by rw [hf]; simp [flag, ho]; omega)⟩
  · rintro σ H1 ⟨S1, ⟨o, rfl⟩, hall⟩
    have hfl : (flags l).all id = true := by
      rw [List.take_of_length_le (by unfold flags; rw [List.length_map, toRows_len, hlen]; exact Nat.le_refl _)] at hall
      exact hall
    refine ⟨_, rfl, a, xs, rfl, .inr (SqT.same S1 ha), 1, (xs.length : Nat), rfl, ⟨by decide, by decide, by omega, by omega⟩, fun D2 hD2 => ?_⟩
    have en : (((xs.length : Nat) : Int) - 1).toNat = l.len - 1 := by omega
    rw [en]
    refine lc_rangeS hD2 (by omega) ((steps l).map V.bl) (by unfold steps; rw [List.length_map, List.length_map, List.length_range]) (fun i y H' C hi hy S hC => ?_) (fun H2 S2 e2 => ?_)
    · obtain ⟨ea, ma', ra⟩ := row_lt (l := l) (i := i) (by omega)
      obtain ⟨eb, mb', rb⟩ := row_lt (l := l) (i := i + 1) (by omega)
      have ey : y = V.bl (lt eb ea) := by
        unfold steps at hy
        rw [List.map_map, List.getElem?_map, List.getElem?_range hi] at hy
        have := (Option.some.inj hy).symm
        rw [this]
        show V.bl (lt (ex l (i + 1)) (ex l i)) = _
        rw [ex_at ra, ex_at rb]
      subst ey
      have xa : xs[i]? = some xs[i] := List.getElem?_eq_getElem (by omega)
      have xb : xs[i + 1]? = some xs[i + 1] := List.getElem?_eq_getElem (by omega)
      obtain ⟨ea2, ma2, ra2, p1, v1, q1, s1, t1⟩ := hxs.at xa
      obtain ⟨eb2, mb2, rb2, p2, v2, q2, s2, t2⟩ := hxs.at xb
      rw [ra] at ra2
      rw [rb] at rb2
      cases ra2
      cases rb2
      have S' : Same H H' := S1.trans S
      have i1 : atI xs (1 + ((i : Nat) : Int)) = some (.ref p2) := at_of (j := i + 1) (by omega) (by rw [xb, q2])
      have i0 : atI xs (1 + ((i : Nat) : Int) - 1) = some (.ref p1) := at_of (j := i) (by omega) (by rw [xa, q1])
      have hrow := row_at rb
      refine ⟨rfl, _, rfl, _, rfl, a, xs, _, _, rfl, rfl, SqT.same S' ha, i1, p2, _, _, _, rfl, rfl, SqT.same S' s2, rfl, ?_⟩
      refine ⟨_, rfl, _, rfl, _, _, rfl, rfl, a, xs, _, _, rfl, rfl, SqT.same S' ha, i0, p1, _, _, _, rfl, rfl, SqT.same S' s1, rfl, eb, ea, LV.gr (Same.gr S') t2, LV.gr (Same.gr S') t1, .inl (by omega), hC _ (Same.refl _)⟩
    · refine ⟨D2, steps l, rfl, SqL.of e2, ?_⟩
      have := q H2 (S1.trans S2)
      rw [ok_eq, hfl] at this
      exact this
theorem lIs_none {k : Nat} : FnOk P w K mg base CX0 k f fd ["_law_thing"] (spIsLad K 0) := by
  have no : ∀ vs H Q E, ¬ spIsLad K 0 vs H Q E := fun vs H Q E h => by
    obtain ⟨_, _, _, _, h1, _⟩ := h
    omega
  exact ⟨fun vs H Q E h => absurd h (no vs H Q E), fun A outer s H args us vs Q E _ _ _ _ h => absurd h (no vs H Q E)⟩
theorem ok_lIs (F : Fun K "_law_is_ladder" "_law_is_ladder" sLIs f fd) (bG : Binds K fd ["_law_thing"] []) (mG : mg "_law_is_ladder" = some (.ref f))
    (mi : mg "isinstance" = none) (mt : mg "tuple" = none) (mI : mg "int" = none) (mB : mg "bool" = none) (ml : mg "len" = none) (ma : mg "all" = none) (mr : mg "range" = none) : ∀ n : Nat, FnOk P w K mg base CX0 n f fd ["_law_thing"] (spIsLad K n)
  | 0 => lIs_none
  | n + 1 => lIs_step F (ok_lIs F bG mG mi mt mI mB ml ma mr n) bG mG mi mt mI mB ml ma mr
end
end K11
/-! Qe -/
namespace K11
open PySem L2 Lad
abbrev sLShown : Stmt := topS 50
abbrev sLSize : Stmt := topS 51
theorem scLShown : FnScope ["_law_ladder_here", "_law_words", "_law_exponent", "_law_many_here", "_law_word"] ["_law_ladder_here"] (defScope sLShown) := ⟨rfl, rfl, rfl, by decide +kernel, rfl, by decide +kernel, by decide +kernel⟩
theorem scLSize : FnScope ["_law_ladder_here", "_law_found", "_law_exponent", "_law_many_here", "_law_inner"] ["_law_ladder_here"] (defScope sLSize) := ⟨rfl, rfl, rfl, by decide +kernel, rfl, by decide +kernel, by decide +kernel⟩
def spLSize (K : PySem.W.Frag) (n : Nat) : Sp := fun vs H Q _ => ∃ (v : V) (l : Lad), vs = [v] ∧ LV K H v l ∧ l.deep < n ∧ ∀ p H', Same H H' → H' p = some (.lst [.int l.parts, .int l.deep]) → Q (.ref p) H'
theorem len_txts (l : Lad) : (txts l).length = l.len := by unfold txts; rw [List.length_map, toRows_len]
theorem parts_snoc : ∀ (l : List Row) (e : Lad) (m : Int), (ofRows (l ++ [(e, m)])).parts = (ofRows l).parts + 1 + e.parts
  | [], e, m => by show 1 + e.parts + 0 = 0 + 1 + e.parts; omega
  | p :: l, e, m => by
    have := parts_snoc l e m
    show 1 + p.1.parts + (ofRows (l ++ [(e, m)])).parts = 1 + p.1.parts + (ofRows l).parts + 1 + e.parts
    omega
theorem deep_snoc : ∀ (l : List Row) (e : Lad) (m : Int), (ofRows (l ++ [(e, m)])).deep = max (ofRows l).deep (1 + e.deep)
  | [], e, m => by show max (1 + e.deep) 0 = max 0 (1 + e.deep); omega
  | p :: l, e, m => by
    have := deep_snoc l e m
    show max (1 + p.1.deep) (ofRows (l ++ [(e, m)])).deep = max (max (1 + p.1.deep) (ofRows l).deep) (1 + e.deep)
    omega
section
variable {P : Program} {w : World} {K : PySem.W.Frag} {mg : Str → Option Value} {base : Heap} {f : Addr} {fd : FuncData}
theorem lShown_step {n : Nat} (F : Fun K "_law_shown" "_law_shown" sLShown f fd) (G : FnOk P w K mg base CX0 n f fd ["_law_ladder_here"] (spShow K n)) (bG : Binds K fd ["_law_ladder_here"] []) (mG : mg "_law_shown" = some (.ref f)) (ms : mg "str" = none) :
    FnOk P w K mg base CX0 (n + 1) f fd ["_law_ladder_here"] (spShow K (n + 1)) := by
  refine F.ok scLShown (fun vs H Q E h => ?_) (fun cdv A outer s H vs Q E hr h => ?_)
  · obtain ⟨v, l, rfl, _⟩ := h
    rfl
  obtain ⟨v, l, rfl, hv, hd, hn8, g1, hp, q⟩ := h
  refine ⟨_, pss_cons (ps_set (i := 1) scLShown.nd rfl (.inl rfl) (pe_lst pa_nil))
    (pss_cons (ps_for PassesOwn.never rfl (pi_tup (pv 0)) (pg_tup rfl (pgs_cons (pg_name (i := 2) scLShown.nd rfl (.inl rfl)) (pgs_cons (pg_name (i := 3) scLShown.nd rfl (.inl rfl)) pgs_nil)))
      (pss_cons (ps_set (i := 4) scLShown.nd rfl (.inl rfl) (pe_op op_add_str (pe_op op_add_str pe_str (pe_call G hr rfl mG F.kp bG .nil pass0 (pa_cons (pv 2) pa_nil))) pe_str))
      (pss_cons (ps_if (pt_cmpR (op_eqL hr) (pv 2) (pe_tup (pa_cons (pe_tup (pa_cons (pe_tup pa_nil) (pa_cons pe_int pa_nil))) pa_nil)) (nomark _)) (pss_one (ps_set (i := 4) scLShown.nd rfl (.inl rfl) pe_str)) pss_nil)
      (pss_cons (ps_if (pt_cmpR op_gt (pv 3) pe_int (nomark _)) (pss_one (ps_set (i := 4) scLShown.nd rfl (.inl rfl) (pe_op op_add_str (pe_op op_add_str (pv 4) pe_str) (pe_callTy call_str_int (by rfl) ms (by decide +kernel) (pa_cons (pv 3) pa_nil))))) pss_nil)
      (pss_cons (ps_if (pt_cmpR (op_eqL hr) (pv 2) (pe_tup pa_nil) (nomark _)) (pss_one (ps_set (i := 4) scLShown.nd rfl (.inl rfl) (pe_callTy call_str_int (by rfl) ms (by decide +kernel) (pa_cons (pv 3) pa_nil)))) pss_nil)
      (pss_one (ps_expr (pe_bm PySem.F.plainAttrs_list PySem.F.slot_list_append PySem.F.type_list_append mt_append (pv 1) (pa_cons (pv 4) pa_nil)))))))))
    (pss_cons (ps_if (pt_cmpR (op_eqNil hr) (pv 1) (pe_lst pa_nil) (nomark _)) (pss_one (ps_ret pe_str)) pss_nil)
    (pss_one (ps_ret (pe_join pe_str (pv 1)))))), ?_⟩
  obtain ⟨a, xs, rfl, ha, hxs⟩ := hv
  have hlen := hxs.len
  have hlp := len_parts l
  have big := big16
  have hlenS := shows_len61 g1 hp
  refine ⟨by show 0 ≤ sizeLine; omega, fun W hW => ?_⟩
  have S0 : Same H (upd H W (.lst [])) := same_new hW _
  refine ⟨_, rfl, a, rfl, ⟨xs, SqT.same S0 ha⟩, ?_⟩
  refine for_tup (xs := xs) (fun i σ H' => Same H H' ∧ (∃ o2 o3 o4, σ = [some (.ref a), some (.ref W), o2, o3, o4]) ∧ H' W = some (.lst ((((txts l).take i).map S).map V.str))) ⟨S0, ⟨none, none, none, rfl⟩, upd_same⟩ (fun i σ H' _ h => SqT.same h.1 ha) ?_ ?_
  · rintro i x σ H1 hx ⟨S1, ⟨o2, o3, o4, rfl⟩, hw⟩
    obtain ⟨e, m, hrow, p, ve, rfl, s1, t1⟩ := hxs.at hx
    have hra := row_at hrow
    obtain ⟨ge, m1, m2⟩ := row_gd g1 hrow
    have htx : (txts l)[i]? = some (showPair e (shows e) m) := by unfold txts; rw [List.getElem?_map, hrow]; rfl
    have hl := shows_len61 ge (by omega)
    have hls := sh_len61 ge (by omega)
    have hdg := dig_len61 m1 m2
    have hsn : Str.ofString (toString m) = S (dig m.toNat) := S_num (by omega)
    -- the text is appended
    have app : ∀ H2, Same H1 H2 → ∀ t2, t2 = showPair e (shows e) m → tDrop (tBM K "list" rAppend (tVar 1) (tCons (tVar 4) tNil))
        { nx := fun σ H' => Same H H' ∧ (∃ o2 o3 o4, σ = [some (.ref a), some (.ref W), o2, o3, o4]) ∧ H' W = some (.lst ((((txts l).take (i + 1)).map S).map V.str)), rt := Q } [some (.ref a), some (.ref W), some ve, some (.int m), some (T t2)] H2 := by
      intro H2 S2 t2 et
      have hw2 := S2 _ _ hw
      refine ⟨_, rfl, .inl ⟨rfl, _, SqL.of hw2⟩, _, rfl, W, _, T t2, rfl, rfl, hw2, ?_, Same.upd_at hW (S1.trans S2) _, ⟨_, _, _, rfl⟩, ?_⟩
      · rw [List.length_map, List.length_map, List.length_take]
        have := len_txts l
        omega
      · rw [upd_same, take_snoc htx, List.map_append, List.map_append, et]
        rfl
    -- the end of the body, from the many on
    have tail : ∀ (w1 : List Nat) (H2 : Hp), Same H1 H2 → w1.length ≤ 7000000 → (e ≠ .nil → w1 = 122 :: (if e = one then [] else 91 :: (shows e ++ [93]))) →
        tSeq (tIfS (tTest (tOp (rI0 fun i j => .bl (decide (j < i))) (tVar 3) (tC (.int 1)))) (tAsg (tOp (fun x y H Q => ∃ i j, x = .str i ∧ y = .str j ∧ i.length + j.length ≤ sizeLine ∧ Q (.str (i ++ j)) H) (tOp (fun x y H Q => ∃ i j, x = .str i ∧ y = .str j ∧ i.length + j.length ≤ sizeLine ∧ Q (.str (i ++ j)) H) (tVar 4) (tC (.str "*")))
          (tCB (fun xs H Q => ∃ i, xs = [.int i] ∧ i.natAbs.log2 < 1920 ∧ Q (.str (toString i)) H) (tCons (tVar 3) tNil))) (gName 4)) tNext)
          (tSeq (tIfS (tTest (tOp (rEqL K) (tVar 2) (tTup tNil))) (tAsg (tCB (fun xs H Q => ∃ i, xs = [.int i] ∧ i.natAbs.log2 < 1920 ∧ Q (.str (toString i)) H) (tCons (tVar 3) tNil)) (gName 4)) tNext) (tDrop (tBM K "list" rAppend (tVar 1) (tCons (tVar 4) tNil))))
          { nx := fun σ H' => Same H H' ∧ (∃ o2 o3 o4, σ = [some (.ref a), some (.ref W), o2, o3, o4]) ∧ H' W = some (.lst ((((txts l).take (i + 1)).map S).map V.str)), rt := Q } [some (.ref a), some (.ref W), some ve, some (.int m), some (T w1)] H2 := by
      intro w1 H2 S2 hw1 ew
      have last : ∀ w2 : List Nat, (e ≠ .nil → w2 = showPair e (shows e) m) → tSeq (tIfS (tTest (tOp (rEqL K) (tVar 2) (tTup tNil))) (tAsg (tCB (fun xs H Q => ∃ i, xs = [.int i] ∧ i.natAbs.log2 < 1920 ∧ Q (.str (toString i)) H) (tCons (tVar 3) tNil)) (gName 4)) tNext) (tDrop (tBM K "list" rAppend (tVar 1) (tCons (tVar 4) tNil)))
          { nx := fun σ H' => Same H H' ∧ (∃ o2 o3 o4, σ = [some (.ref a), some (.ref W), o2, o3, o4]) ∧ H' W = some (.lst ((((txts l).take (i + 1)).map S).map V.str)), rt := Q } [some (.ref a), some (.ref W), some ve, some (.int m), some (T w2)] H2 := by
        intro w2 hw2
        refine ⟨_, rfl, by show 0 ≤ sizeLine; omega, fun p0 hp0 => ?_⟩
        have S3 := S2.trans (same_new hp0 (.tup []))
        refine ⟨e, .nil, LV.gr (Same.gr (S1.trans S3)) t1, LV.nil (SqT.of upd_same), .inr (Nat.zero_le _), _, rfl, ?_⟩
        by_cases he : e = .nil
        · rw [decide_eq_true he]
          refine iteT ⟨_, rfl, m, rfl, log_ok m1 m2, ?_⟩
          have hh := app _ S3 (dig m.toNat) (by unfold showPair; rw [if_pos he])
          rw [show T (dig m.toNat) = V.str (Str.ofString (toString m)) by rw [hsn]] at hh
          exact hh
        · rw [decide_eq_false he]
          exact iteF (app _ S3 _ (hw2 he))
      refine ⟨_, rfl, _, _, rfl, rfl, _, rfl, ?_⟩
      by_cases hm : m = 1
      · rw [decide_eq_false (show ¬ (1 : Int) < m by omega)]
        refine iteF (last w1 fun he => ?_)
        rw [ew he]
        unfold showPair
        rw [if_neg he, if_pos hm, List.append_nil]
      · rw [decide_eq_true (show (1 : Int) < m by omega)]
        refine iteT ⟨_, rfl, S w1, "*", rfl, rfl, ?_, _, rfl, m, rfl, log_ok m1 m2, _, _, rfl, rfl, ?_, ?_⟩
        · rw [lit_star, S_len, S_len]
          simp only [List.length_cons, List.length_nil]
          omega
        · show (S w1 ++ ("*" : Str)).length + (Str.ofString (toString m)).length ≤ _
          rw [hsn, lit_star, S_app, S_len, S_len]
          simp only [List.length_append, List.length_cons, List.length_nil]
          omega
        · show tSeq _ _ _ [some (.ref a), some (.ref W), some ve, some (.int m), some (.str (S w1 ++ ("*" : Str) ++ Str.ofString (toString m)))] _
          rw [hsn, lit_star, S_app, S_app]
          refine last _ fun he => ?_
          rw [ew he]
          unfold showPair
          rw [if_neg he, if_neg hm]
          simp only [List.append_assoc, List.cons_append, List.nil_append]
    refine ⟨p, _, rfl, SqT.same S1 s1, rfl, _, _, rfl, _, _, rfl, rfl, ?_⟩
    refine ⟨_, rfl, ve, e, rfl, LV.gr (Same.gr S1) t1, by omega, by omega, ge, by omega, fun H2 S2 => ⟨_, _, rfl, rfl, ?_, _, _, rfl, rfl, ?_, ?_⟩⟩
    · rw [lit_zb, S_len, S_len]
      simp only [List.length_cons, List.length_nil]
      omega
    · rw [lit_zb, lit_c, S_app, S_len, S_len]
      simp only [List.length_append, List.length_cons, List.length_nil]
      omega
    · show tSeq _ _ _ [some (.ref a), some (.ref W), some ve, some (.int m), some (.str (("z[" : Str) ++ S (sh e) ++ ("]" : Str)))] _
      rw [lit_zb, lit_c, S_app, S_app]
      refine ⟨_, rfl, by show 0 ≤ sizeLine; omega, fun p0 hp0 => ⟨by show 2 ≤ sizeLine; omega, fun p1 hp1 => ⟨by show 1 ≤ sizeLine; omega, fun p2 hp2 => ?_⟩⟩⟩
      have S3 := S2.trans (((same_new hp0 (.tup [])).trans (same_new hp1 (.tup [.ref p0, .int 1]))).trans (same_new hp2 (.tup [.ref p1])))
      have l1 : LV K (upd (upd (upd H2 p0 (.tup [])) p1 (.tup [.ref p0, .int 1])) p2 (.tup [.ref p1])) (.ref p2) one :=
        ⟨p2, _, rfl, SqT.of upd_same, LVs.cons (PV.mk' (SqT.of ((same_new hp2 _) _ _ upd_same)) (LV.nil (SqT.of (((same_new hp1 _).trans (same_new hp2 _)) _ _ upd_same)))) rfl⟩
      refine ⟨e, one, LV.gr (Same.gr (S1.trans S3)) t1, l1, .inl (by omega), _, rfl, ?_⟩
      by_cases ho : e = one
      · rw [decide_eq_true ho]
        refine iteT ?_
        show tSeq _ _ _ [some (.ref a), some (.ref W), some ve, some (.int m), some (.str ("z" : Str))] _
        rw [lit_z]
        exact tail [122] _ S3 (by simp) fun _ => by rw [if_pos ho]
      · rw [decide_eq_false ho]
        refine iteF (tail _ _ S3 ?_ fun he => ?_)
        · simp only [List.length_append, List.length_cons, List.length_nil]
          omega
        · rw [if_neg ho, sh_shows he]
          simp only [List.cons_append, List.nil_append]
  · rintro σ H1 ⟨S1, ⟨o2, o3, o4, rfl⟩, hw⟩
    rw [List.take_of_length_le (by rw [len_txts]; omega)] at hw
    refine ⟨_, rfl, by show 0 ≤ sizeLine; omega, fun Z hZ => ?_⟩
    have S2 := same_new hZ (.lst [])
    refine ⟨W, Z, _, rfl, rfl, SqL.of (S2 _ _ hw), SqL.of upd_same, _, rfl, ?_⟩
    by_cases hl : l = .nil
    · subst hl
      refine iteT ?_
      rw [lit_0]
      exact q _ (S1.trans S2)
    · have he : (((txts l).map S).map V.str).isEmpty = false := by
        rw [List.isEmpty_eq_false_iff]
        intro z
        have := congrArg List.length z
        rw [List.length_map, List.length_map, len_txts] at this
        cases l with
        | nil => exact hl rfl
        | cons _ _ _ => cases this
      rw [he]
      refine iteF ⟨⟨_, rfl⟩, _, rfl, _, W, (txts l).map S, rfl, rfl, .inl (SqL.of (S2 _ _ hw)), ?_, ?_⟩
      · have := txts_len l
        have e2 : (((txts l).map S).map (·.length)).sum = ((txts l).map List.length).sum := by
          rw [List.map_map]
          congr 1
        have e3 : (("+" : Str)).length = 1 := by rw [lit_plus, S_len]; rfl
        rw [e2, e3, List.length_map]
        omega
      · have e4 : Txt.join ("+" : Str) ((txts l).map S) = S (shows l) := by rw [lit_plus, S_join]
        show Q (.str (Txt.join ("+" : Str) ((txts l).map S))) _
        rw [e4]
        have := q _ (S1.trans S2)
        rw [sh_shows hl] at this
        exact this
theorem lShown_none {k : Nat} : FnOk P w K mg base CX0 k f fd ["_law_ladder_here"] (spShow K 0) := by
  have no : ∀ vs H Q E, ¬ spShow K 0 vs H Q E := fun vs H Q E h => by
    obtain ⟨_, _, _, _, h1, _⟩ := h
    omega
  exact ⟨fun vs H Q E h => absurd h (no vs H Q E), fun A outer s H args us vs Q E _ _ _ _ h => absurd h (no vs H Q E)⟩
theorem ok_lShown (F : Fun K "_law_shown" "_law_shown" sLShown f fd) (bG : Binds K fd ["_law_ladder_here"] []) (mG : mg "_law_shown" = some (.ref f)) (ms : mg "str" = none) : ∀ n : Nat, FnOk P w K mg base CX0 n f fd ["_law_ladder_here"] (spShow K n)
  | 0 => lShown_none
  | n + 1 => lShown_step F (ok_lShown F bG mG ms n) bG mG ms
theorem lSize_step {n : Nat} (F : Fun K "_law_size" "_law_size" sLSize f fd) (G : FnOk P w K mg base CX0 n f fd ["_law_ladder_here"] (spLSize K n)) (bG : Binds K fd ["_law_ladder_here"] []) (mG : mg "_law_size" = some (.ref f)) (mm : mg "max" = none) :
    FnOk P w K mg base CX0 (n + 1) f fd ["_law_ladder_here"] (spLSize K (n + 1)) := by
  refine F.ok scLSize (fun vs H Q E h => ?_) (fun cdv A outer s H vs Q E hr h => ?_)
  · obtain ⟨v, l, rfl, _⟩ := h
    rfl
  obtain ⟨v, l, rfl, hv, hd, q⟩ := h
  refine ⟨_, pss_cons (ps_set (i := 1) scLSize.nd rfl (.inl rfl) (pe_lst (pa_cons pe_int (pa_cons pe_int pa_nil))))
    (pss_cons (ps_for PassesOwn.never rfl (pi_tup (pv 0)) (pg_tup rfl (pgs_cons (pg_name (i := 2) scLSize.nd rfl (.inl rfl)) (pgs_cons (pg_name (i := 3) scLSize.nd rfl (.inl rfl)) pgs_nil)))
      (pss_cons (ps_set (i := 4) scLSize.nd rfl (.inl rfl) (pe_call G hr rfl mG F.kp bG .nil pass0 (pa_cons (pv 2) pa_nil)))
      (pss_one (ps_set (i := 1) scLSize.nd rfl (.inl rfl) (pe_lst (pa_cons (pe_op op_add (pe_op op_add (pe_ix ix_list (pv 1) pe_int (fun _ _ => rfl)) pe_int) (pe_ix ix_list (pv 4) pe_int (fun _ _ => rfl)))
        (pa_cons (pe_callB (call_max2 rfl) (by rfl) mm (by decide +kernel) (pa_cons (pe_ix ix_list (pv 1) pe_int (fun _ _ => rfl)) (pa_cons (pe_op op_add pe_int (pe_ix ix_list (pv 4) pe_int (fun _ _ => rfl))) pa_nil))) pa_nil)))))))
    (pss_one (ps_ret (pv 1)))), ?_⟩
  obtain ⟨a, xs, rfl, ha, hxs⟩ := hv
  have hlen := hxs.len
  refine ⟨by show 2 ≤ sizeLine; decide, fun Z hZ => ?_⟩
  have S0 := same_new hZ (.lst [.int 0, .int 0])
  refine ⟨_, rfl, a, rfl, ⟨xs, SqT.same S0 ha⟩, ?_⟩
  refine for_tup (xs := xs) (fun i σ H' => Same H H' ∧ ∃ (Z : Addr) (o2 o3 o4 : Option V), σ = [some (.ref a), some (.ref Z), o2, o3, o4] ∧ H' Z = some (.lst [.int (ofRows ((toRows l).take i)).parts, .int (ofRows ((toRows l).take i)).deep])) ⟨S0, Z, none, none, none, rfl, upd_same⟩ (fun i σ H' _ h => SqT.same h.1 ha) ?_ ?_
  · rintro i x σ H1 hx ⟨S1, Z, o2, o3, o4, rfl, hz⟩
    obtain ⟨e, m, hrow, p, ve, rfl, s1, t1⟩ := hxs.at hx
    have hra := row_at hrow
    refine ⟨p, _, rfl, SqT.same S1 s1, rfl, _, _, rfl, _, _, rfl, rfl, ?_⟩
    refine ⟨_, rfl, ve, e, rfl, LV.gr (Same.gr S1) t1, by omega, fun z H2 S2 hz2 => ?_⟩
    have hZ2 := S2 _ _ hz
    refine ⟨_, rfl, Z, _, 0, _, rfl, rfl, SqL.of hZ2, at_of (j := 0) rfl rfl, _, _, rfl, rfl, _, rfl, z, _, 0, _, rfl, rfl, SqL.of hz2, at_of (j := 0) rfl rfl, _, _, rfl, rfl, ?_⟩
    refine ⟨_, rfl, Z, _, 1, _, rfl, rfl, SqL.of hZ2, at_of (j := 1) rfl rfl, _, rfl, z, _, 1, _, rfl, rfl, SqL.of hz2, at_of (j := 1) rfl rfl, _, _, rfl, rfl, _, _, rfl, by show 2 ≤ sizeLine; decide, fun Z3 hZ3 => ?_⟩
    refine ⟨(S1.trans S2).trans (same_new hZ3 _), Z3, _, _, _, rfl, ?_⟩
    rw [upd_same, take_snoc hrow, parts_snoc, deep_snoc]
    have e1 : (((ofRows ((toRows l).take i)).parts + 1 + e.parts : Nat) : Int) = ((ofRows ((toRows l).take i)).parts : Int) + 1 + (e.parts : Int) := by omega
    have e2 : ((max (ofRows ((toRows l).take i)).deep (1 + e.deep) : Nat) : Int) = if (1 : Int) + (e.deep : Int) > ((ofRows ((toRows l).take i)).deep : Int) then (1 : Int) + (e.deep : Int) else ((ofRows ((toRows l).take i)).deep : Int) := by
      split <;> omega
    rw [e1, e2]
  · rintro σ H1 ⟨S1, Z, o2, o3, o4, rfl, hz⟩
    rw [List.take_of_length_le (by rw [toRows_len, hlen]; exact Nat.le_refl _), of_to] at hz
    exact ⟨_, rfl, q Z H1 S1 hz⟩
theorem lSize_none {k : Nat} : FnOk P w K mg base CX0 k f fd ["_law_ladder_here"] (spLSize K 0) := by
  have no : ∀ vs H Q E, ¬ spLSize K 0 vs H Q E := fun vs H Q E h => by
    obtain ⟨_, _, _, _, h1, _⟩ := h
    omega
  exact ⟨fun vs H Q E h => absurd h (no vs H Q E), fun A outer s H args us vs Q E _ _ _ _ h => absurd h (no vs H Q E)⟩
theorem ok_lSize (F : Fun K "_law_size" "_law_size" sLSize f fd) (bG : Binds K fd ["_law_ladder_here"] []) (mG : mg "_law_size" = some (.ref f)) (mm : mg "max" = none) : ∀ n : Nat, FnOk P w K mg base CX0 n f fd ["_law_ladder_here"] (spLSize K n)
  | 0 => lSize_none
  | n + 1 => lSize_step F (ok_lSize F bG mG mm n) bG mG mm
end
end K11
/-! Qf -/
namespace K11
open PySem L2 Lad
abbrev sBent : Stmt := topS 52
theorem scBent : FnScope ["_law_purse_here", "_law_ladder_here", "_law_text", "_law_some"] ["_law_purse_here", "_law_ladder_here", "_law_text"] (defScope sBent) := ⟨rfl, rfl, rfl, by decide +kernel, rfl, by decide +kernel, by decide +kernel⟩
/-- a text that is refused -/
def Bad (x : V) : Prop := ∃ t : List Nat, x = T t ∧ rd t = none ∧ t.length ≤ 40000
def spBent (K : PySem.W.Frag) : Sp := fun vs H Q _ => ∃ (p : Addr) (v : V) (l : Lad), vs = [.ref p, v, T (sh l)] ∧ Purse H p ∧ LV K H v l ∧ Nice 12 l ∧ l.parts ≤ 30 ∧ ∀ t H', rd t = none → t.length ≤ 40000 → Drawn p H H' → Q (T t) H'
theorem LVs.last {K : PySem.W.Frag} {H : Hp} : ∀ {l : Lad} {xs : List V}, LVs K H xs l → LVs K H (xs.drop (xs.length - 1)) (last l)
  | .nil, xs, h => by
    rw [show xs = [] from h]
    rfl
  | .cons e m .nil, xs, h => by
    obtain ⟨v, zs, rfl, pv, h2⟩ := h.uncons
    rw [show zs = [] from h2]
    exact LVs.cons pv rfl
  | .cons e m (.cons e' m' r), xs, h => by
    obtain ⟨v, zs, rfl, pv, h2⟩ := h.uncons
    have ih := LVs.last h2
    have hl := h2.len
    rw [List.length_cons, show zs.length + 1 - 1 = (zs.length - 1) + 1 by rw [hl]; simp [Lad.len]]
    exact ih
theorem LVs.rev {K : PySem.W.Frag} {H : Hp} : ∀ {l : Lad} {xs : List V}, LVs K H xs l → LVs K H xs.reverse (rev l)
  | .nil, xs, h => by
    rw [show xs = [] from h]
    rfl
  | .cons e m r, xs, h => by
    obtain ⟨v, zs, rfl, pv, h2⟩ := h.uncons
    rw [List.reverse_cons]
    exact LVs.app (LVs.rev h2) (LVs.cons pv rfl)
theorem lit_p1 : ("*1" : Str) = S [42, 49] := by decide +kernel
theorem lit_0p : ("0+" : Str) = S [48, 43] := by decide +kernel
theorem lit_p0 : ("+0" : Str) = S [43, 48] := by decide +kernel
theorem lit_sp : (" " : Str) = S [32] := by decide +kernel
theorem lit_e : ("" : Str) = S [] := by decide +kernel
theorem lit_op : ("(" : Str) = S [40] := by decide +kernel
theorem lit_cp : (")" : Str) = S [41] := by decide +kernel
theorem lit_pZ : ("+Z" : Str) = S [43, 90] := by decide +kernel
theorem lit_bZ : ("Z" : Str) = S [90] := by decide +kernel
theorem lit_z1 : ("z[1]" : Str) = S [122, 91, 49, 93] := by decide +kernel
theorem bad_of {t : List Nat} (h : rd t = none) (hl : t.length ≤ 40000) : Bad (T t) := ⟨t, rfl, h, hl⟩
theorem sh_len30 {l : Lad} (g : gd 60 l) (hp : l.parts ≤ 60) : (sh l).length ≤ 3900 := by
  unfold sh
  split
  · simp
  · have := len_sh (w := 60) (by decide) l g
    omega
/-- a text and a written one -/
theorem at_mem {xs : List V} {v : Int} (h0 : 0 ≤ v) (h1 : v < (xs.length : Nat)) : ∃ x, atI xs v = some x ∧ x ∈ xs := by
  have hl : v.toNat < xs.length := by omega
  exact ⟨xs[v.toNat], at_of (j := v.toNat) (by omega) (List.getElem?_eq_getElem hl), List.getElem_mem hl⟩
theorem catA_of {K : PySem.W.Frag} {H : Hp} {a b : Addr} {xs ys : List V} {Q : VK} (ha : SqT K H a xs) (hb : SqT K H b ys) (hz : xs.length + ys.length ≤ sizeLine) (q : ∀ c H', Same H H' → SqT K H' c (xs ++ ys) → Q (.ref c) H') : rCatA K (.ref a) (.ref b) H Q := by
  refine ⟨a, b, xs, ys, rfl, rfl, ha, hb, hz, fun e => ?_, fun _ e => ?_, fun _ _ p hp => q p _ (same_new hp _) (SqT.of upd_same)⟩
  · subst e
    exact q b H (Same.refl H) hb
  · subst e
    exact q a H (Same.refl H) (by rw [List.append_nil]; exact ha)
theorem cut_last (xs : List V) : HT.sIx xs.length 0 (some (-1)) = xs.length - 1 := by
  show (if (-1 : Int) < 0 then ((-1 : Int) + (xs.length : Int)).toNat else min (-1 : Int).toNat xs.length) = _
  rw [if_pos (by decide)]
  omega
theorem slA_last {K : PySem.W.Frag} {H0 H : Hp} {a z : Addr} {xs L : List V} {n : Nat} {Q : VK} {σ : St} (S : Same H0 H) (e : H z = some (.lst L)) (bad : ∀ x ∈ L, Bad x) (hn : L.length = n) (ha : SqT K H0 a xs)
    (q : ∀ c H' L', Same H0 H' → H' z = some (.lst L') → (∀ x ∈ L', Bad x) → L'.length = n → SqT K H' c (xs.drop (xs.length - 1)) → Q (.ref c) H') : tNoPart σ H fun u H3 => rSlA K (.ref a) (some (-1)) u H3 Q := by
  refine ⟨a, xs, rfl, SqT.same S ha, fun h => q a H L S e bad hn ?_, fun _ p hp => q p _ L (S.trans (same_new hp _)) (same_new hp _ z _ e) bad hn (SqT.of ?_)⟩
  · rw [show xs.length - 1 = 0 by rw [← cut_last xs]; exact h.1]
    exact SqT.same S ha
  · rw [upd_same]
    unfold cutV
    rw [cut_last, List.take_of_length_le (by rw [List.length_drop]; exact Nat.le_refl _)]
theorem mul01 (z : Str) (c : Prop) [Decidable c] : (if (if decide c = true then (1 : Int) else 0) = 0 then S [] else z) = if c then z else S [] := by
  by_cases h : c
  · rw [decide_eq_true h, if_pos rfl, if_pos h, if_neg (by decide)]
  · rw [decide_eq_false h, if_neg (by decide : ¬ (false = true)), if_pos rfl, if_neg h]
theorem mul_len {z : Str} {c : Prop} [Decidable c] {n : Nat} (h : z.length ≤ n) : (if (if decide c = true then (1 : Int) else 0) = 0 then S [] else z).length ≤ n := by
  rw [mul01 z c]
  by_cases hc : c
  · rw [if_pos hc]
    exact h
  · rw [if_neg hc, S_len]
    exact Nat.zero_le _
theorem one01 (c : Prop) [Decidable c] : (if decide c = true then (1 : Int) else 0) = 0 ∨ (if decide c = true then (1 : Int) else 0) = 1 := by
  split
  · exact .inr rfl
  · exact .inl rfl
section
variable {P : Program} {w : World} {K : PySem.W.Frag} {mg : Str → Option Value} {base : Heap} {f g h : Addr} {fd gd' hd' : FuncData}
theorem ok_bent (F : Fun K "_law_bent" "_law_bent" sBent f fd)
    (GD : FnOk P w K mg base CX0 1 g gd' ["_law_purse_here", "_law_many_here"] spDraw) (bD : Binds K gd' ["_law_purse_here", "_law_many_here"] []) (kD : PySem.W.keepIn K (.ref g) = true) (mD : mg "_law_draw" = some (.ref g))
    (GS : FnOk P w K mg base CX0 20 h hd' ["_law_ladder_here"] (spShow K 20)) (bS : Binds K hd' ["_law_ladder_here"] []) (kS : PySem.W.keepIn K (.ref h) = true) (mS : mg "_law_shown" = some (.ref h))
    (mI : mg "int" = none) (ml : mg "len" = none) : FnOk P w K mg base CX0 21 f fd ["_law_purse_here", "_law_ladder_here", "_law_text"] (spBent K) := by
  refine F.ok scBent (fun vs H Q E h => ?_) (fun cdv A outer s H vs Q E hr h => ?_)
  · obtain ⟨p, v, l, rfl, _⟩ := h
    rfl
  obtain ⟨p, v, l, rfl, hp, hv, nice, hpar, q⟩ := h
  have hrD : Room 1 _ := hr.mono (by decide)
  refine ⟨_, pss_set1 (i := 3) scBent.nd rfl (.inl rfl) (pe1_lst (pa1_cons (pe1_op op_add_str (pv 2) pe1_str) (pa_cons (pe_op op_add_str pe_str (pv 2)) (pa_cons (pe_op op_add_str (pv 2) pe_str) (pa_cons (pe_op op_add_str pe_str (pv 2)) (pa_cons (pe_op op_add_str (pv 2) pe_str) (pa_cons (pe_op op_add_str pe_str (pv 2)) (pa_cons (pe_op op_add_str (pv 2) pe_str) (pa_cons (pe_op op_add_str pe_str (pv 2)) pa_nil)))))))))
    (psst_cons (pst_set (i := 3) scBent.nd rfl (.inl rfl) (CwR.pet_op op_cat (CwR.PET.of (pv 3)) (pet_lst (pat_cons (CwR.PET.of (pe_op op_add_str (pv 2) pe_str)) (pat_cons (CwR.PET.of (pe_op op_add_str (pe_op op_add_str pe_str (pv 2)) pe_str)) (pat_cons (CwR.PET.of pe_str) (pat_cons (CwR.PET.of (pe_op op_add_str (pe_op op_add_str pe_str (pv 2)) pe_str)) (pat_cons (CwR.pet_op op_add_str (CwR.pet_replC (pv 2)) (CwR.PET.of pe_str)) pat_nil))))))))
    (psst_cons (pst_set (i := 3) scBent.nd rfl (.inl rfl) (CwR.pet_op op_cat (CwR.PET.of (pv 3)) (pet_lst (pat_cons (CwR.pet_op op_add_str (CwR.pet_replC (pv 2)) (CwR.PET.of pe_str)) (pat_cons (CwR.PET.of (pe_op op_add_str (pe_call GS hr (by rfl) mS kS bS .nil pass0 (pa_cons (pe_op op_catA (pv 1) (pe_slice sl_tupA (pv 1) (po_some (pe_un un_neg pe_int)) po_none)) pa_nil)) (pe_op op_mulS pe_str (pe_callTy call_int1 (by rfl) mI (by decide +kernel) (pa_cons (pe_cmpR (op_eqL hr) (pv 1) (pe_tup pa_nil) (nomark _)) pa_nil))))) pat_nil)))))
    (psst_cons (PST.of (ps_expr (pe_bm PySem.F.plainAttrs_list PySem.F.slot_list_append PySem.F.type_list_append mt_append (pv 3) (pa_cons (pe_op op_add_str (pe_call GS hr (by rfl) mS kS bS .nil pass0 (pa_cons (pe_revT (pv 1)) pa_nil)) (pe_op op_mulS pe_str (pe_callTy call_int1 (by rfl) mI (by decide +kernel) (pa_cons (pe_cmpR op_lt (pe_callB call_len_seq (by rfl) ml PySem.boot_len (pa_cons (pv 1) pa_nil)) pe_int (nomark _)) pa_nil)))) pa_nil))))
    (PSsT.of (pss_one (ps_ret (pe_ix ix_list (pv 3) (pe_call GD hrD (by rfl) mD kD bD .nil pass0 (pa_cons (pv 0) (pa_cons (pe_callB call_len_seq (by rfl) ml PySem.boot_len (pa_cons (pv 3) pa_nil)) pa_nil))) (fun _ _ => rfl)))))))), ?_⟩
  obtain ⟨lok, ldeep, lgd⟩ := nice
  have big := big16
  have hlen := sh_len30 lgd (by omega)
  have hlen1 := len_pos l
  have glen1 : gd 61 l := gd_mono (by decide) l lgd
  obtain ⟨a, xs, rfl, ha, hxs⟩ := hv
  have hxl := hxs.len
  have LR : ∀ x : Str, x.length ≤ 10 → (S (sh l)).length + x.length ≤ sizeLine := fun x hx => by rw [S_len]; omega
  have LL : ∀ x : Str, x.length ≤ 10 → x.length + (S (sh l)).length ≤ sizeLine := fun x hx => by rw [S_len]; omega
  -- the first eight
  refine ⟨_, rfl, _, _, rfl, rfl, LR _ (by decide +kernel), _, rfl, _, _, rfl, rfl, LL _ (by decide +kernel), _, rfl, _, _, rfl, rfl, LR _ (by decide +kernel), _, rfl, _, _, rfl, rfl, LL _ (by decide +kernel), _, rfl, _, _, rfl, rfl, LR _ (by decide +kernel), _, rfl, _, _, rfl, rfl, LL _ (by decide +kernel), _, rfl, _, _, rfl, rfl, LR _ (by decide +kernel), _, rfl, _, _, rfl, rfl, LL _ (by decide +kernel), by show 8 ≤ sizeLine; omega, fun z1 hz1 => ?_⟩
  have B1 : ∀ x ∈ ([.str (S (sh l) ++ ("+" : Str)), .str (("+" : Str) ++ S (sh l)), .str (S (sh l) ++ ("*1" : Str)), .str (("0+" : Str) ++ S (sh l)), .str (S (sh l) ++ ("+0" : Str)), .str ((" " : Str) ++ S (sh l)), .str (S (sh l) ++ (" " : Str)), .str (("0" : Str) ++ S (sh l))] : List V), Bad x := by
    rw [lit_plus, lit_p1, lit_0p, lit_p0, lit_sp, lit_0]
    simp only [S_app, List.mem_cons, List.not_mem_nil, or_false, List.cons_append, List.nil_append]
    intro x hx
    rcases hx with rfl | rfl | rfl | rfl | rfl | rfl | rfl | rfl
    · exact bad_of (bent_plus l) (by simp; omega)
    · exact bad_of (bent_head rfl _ (sh_pos l)) (by simp; omega)
    · exact bad_of (bent_end end_star1 _ (by decide)) (by simp; omega)
    · exact bad_of (bent_head (c := 48) rfl (43 :: sh l) (by simp)) (by simp; omega)
    · exact bad_of (bent_end end_plus0 _ (by decide)) (by simp; omega)
    · exact bad_of (bent_head rfl _ (sh_pos l)) (by simp; omega)
    · exact bad_of (bent_blank l) (by simp; omega)
    · exact bad_of (bent_head rfl _ (sh_pos l)) (by simp; omega)
  -- the second display
  have rl1 : (Txt.replace (S (sh l)) "z" "z[1]").length ≤ 24000 := by
    have := TK.replace_len (S (sh l)) "z" "z[1]"
    rw [S_len, show ("z[1]" : Str).length = 4 by decide +kernel] at this
    omega
  refine ⟨_, rfl, _, rfl, _, _, rfl, rfl, LR _ (by decide +kernel), _, rfl, _, _, rfl, rfl, LL _ (by decide +kernel), _, _, rfl, rfl, ?_, _, rfl, _, _, rfl, rfl, LL _ (by decide +kernel), _, _, rfl, rfl, ?_, _, rfl, _, rfl, ?_, _, _, rfl, rfl, ?_, ?_, fun z2 hz2 => ?_⟩
  · show (("[" : Str) ++ S (sh l)).length + (("]" : Str)).length ≤ _
    rw [lit_b, lit_c, S_app, S_len, S_len]
    simp
    omega
  · show (("(" : Str) ++ S (sh l)).length + ((")" : Str)).length ≤ _
    rw [lit_op, lit_cp, S_app, S_len, S_len]
    simp
    omega
  · rw [S_len, show (Str.ofString "z[1]").length = 4 by decide +kernel]
    omega
  · rw [show (Str.ofString "*1").length = 2 by decide +kernel]
    exact Nat.le_trans (Nat.add_le_add_right rl1 2) (by omega)
  · show 5 ≤ sizeLine
    omega
  have n21 : z2 ≠ z1 := fun e => by
    rw [e, upd_same] at hz2
    cases hz2
  refine ⟨_, _, _, _, rfl, rfl, (upd_ne n21.symm).trans upd_same, upd_same, by simp only [List.length_cons, List.length_nil]; omega, fun z3 hz3 => ?_⟩
  have rl2 : (Txt.replace (S (sh l)) "z" "Z").length ≤ 8000 := by
    have := TK.replace_len (S (sh l)) "z" "Z"
    rw [S_len, show ("Z" : Str).length = 1 by decide +kernel] at this
    omega
  refine ⟨_, rfl, _, rfl, _, rfl, ?_, _, _, rfl, rfl, ?_, ?_⟩
  · rw [S_len, show (Str.ofString "Z").length = 1 by decide +kernel]
    omega
  · rw [show (Str.ofString "+Z").length = 2 by decide +kernel]
    exact Nat.le_trans (Nat.add_le_add_right rl2 2) (by omega)
  have n32 : z3 ≠ z2 := fun e => by
    rw [e, upd_same] at hz3
    cases hz3
  refine ⟨_, rfl, _, rfl, _, rfl, _, rfl, slA_last (n := 13) (((same_new hz1 _).trans (same_new hz2 _)).trans (same_new hz3 _)) upd_same ?_ rfl ha fun c1 H1 L1 S1 e1 B2 len1 hc1 => catA_of (SqT.same S1 ha) hc1 ?_ fun c2 H2 S2 hc2 => ⟨_, app l (last l), rfl, ⟨c2, _, rfl, hc2, LVs.app (LVs.gr (Same.gr (S1.trans S2)) hxs) (LVs.last (LVs.gr (Same.gr (S1.trans S2)) hxs))⟩, ?_, by decide, ?_, ?_, fun H3 S3 => ?_⟩⟩
  · intro x hx
    rcases List.mem_append.mp hx with hx | hx
    · exact B1 x hx
    · rcases List.mem_cons.mp hx with rfl | hx
      · refine ⟨sh l ++ [122], congrArg V.str (show S (sh l) ++ ("z" : Str) = _ by rw [lit_z, S_app]), bent_z (g1_of lgd), by simp; omega⟩
      rcases List.mem_cons.mp hx with rfl | hx
      · refine ⟨91 :: (sh l ++ [93]), congrArg V.str (show ("[" : Str) ++ S (sh l) ++ ("]" : Str) = _ by rw [lit_b, lit_c, S_app, S_app]; rfl), bent_head rfl _ (by simp), by simp; omega⟩
      rcases List.mem_cons.mp hx with rfl | hx
      · exact ⟨[], rfl, refused (by decide) (by decide), by decide⟩
      rcases List.mem_cons.mp hx with rfl | hx
      · refine ⟨40 :: (sh l ++ [41]), congrArg V.str (show ("(" : Str) ++ S (sh l) ++ (")" : Str) = _ by rw [lit_op, lit_cp, S_app, S_app]; rfl), bent_head rfl _ (by simp), by simp; omega⟩
      rcases List.mem_cons.mp hx with rfl | hx
      · refine ⟨(Txt.replace (S (sh l)) "z" "z[1]").cps.toList ++ [42, 49], congrArg V.str (show Txt.replace (S (sh l)) "z" "z[1]" ++ ("*1" : Str) = _ by rw [← S_app, S_eta, lit_p1]), bent_end end_star1 _ (by decide), ?_⟩
        have : (Txt.replace (S (sh l)) "z" "z[1]").cps.toList.length = (Txt.replace (S (sh l)) "z" "z[1]").length := by rw [← S_len, S_eta]
        rw [List.length_append, this]
        exact Nat.le_trans (Nat.add_le_add_right rl1 2) (by omega)
      exact absurd hx List.not_mem_nil
  · rw [List.length_drop, hxl]
    have := len_parts l
    omega
  · rw [deep_app]
    have := deep_last l
    omega
  · exact gd_app glen1 (gd_last glen1)
  · rw [parts_app]
    have := parts_last l
    omega
  have S13 := (S1.trans S2).trans S3
  have bnd3 : (sh (app l (last l))).length ≤ 3900 := sh_len30 (gd_app lgd (gd_last lgd)) (by
    rw [parts_app]
    have := parts_last l
    omega)
  refine ⟨_, rfl, by show 0 ≤ sizeLine; omega, fun p4 hp4 => ?_⟩
  have S4 : Same H3 (upd H3 p4 (.tup [])) := same_new hp4 _
  refine ⟨l, .nil, LV.gr (Same.gr (S13.trans S4)) ⟨a, xs, rfl, ha, hxs⟩, LV.nil (SqT.of upd_same), .inr (Nat.zero_le _), .inr ⟨_, rfl, _, _, rfl, rfl, ?_, _, _, rfl, rfl, ?_, ?_, fun p5 hp5 => ?_⟩⟩
  · exact one01 _
  · rw [S_len]
    have := mul_len (z := Str.ofString "+") (c := l = .nil) (n := 1) (by decide +kernel)
    omega
  · show 2 ≤ sizeLine
    omega
  refine ⟨_, _, _, _, rfl, rfl, (same_new hp4 _).trans (same_new hp5 _) z3 _ (S2.trans S3 z3 _ e1), upd_same, ?_, fun z6 hz6 => ?_⟩
  · simp only [List.length_cons, List.length_nil]
    omega
  refine ⟨_, rfl, .inl ⟨rfl, _, SqL.of upd_same⟩, _, rfl, a, xs, rfl, SqT.same (((S13.trans (same_new hp4 _)).trans (same_new hp5 _)).trans (same_new hz6 _)) ha, fun p7 hp7 => ⟨_, rev l, rfl, ⟨p7, _, rfl, SqT.of upd_same, LVs.rev (LVs.gr (Same.gr ((((S13.trans (same_new hp4 _)).trans (same_new hp5 _)).trans (same_new hz6 _)).trans (same_new hp7 _))) hxs)⟩, ?_, by decide, ?_, ?_, fun H8 S8 => ?_⟩⟩
  · rw [deep_rev]
    omega
  · exact gd_rev glen1
  · rw [parts_rev]
    omega
  have bnd4 : (sh (rev l)).length ≤ 3900 := sh_len30 (gd_rev lgd) (by rw [parts_rev]; omega)
  have S08 := ((((S13.trans (same_new hp4 _)).trans (same_new hp5 _)).trans (same_new hz6 _)).trans (same_new hp7 _)).trans S8
  obtain ⟨L8, e8, B8, len8⟩ : ∃ L8, H8 z6 = some (.lst L8) ∧ (∀ x ∈ L8, Bad x) ∧ L8.length = 15 := by
    refine ⟨_, S8 _ _ (same_new hp7 _ z6 _ upd_same), fun x hx => ?_, ?_⟩
    · rcases List.mem_append.mp hx with hx | hx
      · exact B2 x hx
      · rcases List.mem_cons.mp hx with rfl | hx
        · refine ⟨(Txt.replace (S (sh l)) "z" "Z").cps.toList ++ [43, 90], congrArg V.str (show Txt.replace (S (sh l)) "z" "Z" ++ ("+Z" : Str) = _ by rw [← S_app, S_eta, lit_pZ]), bent_end end_plusZ _ (by decide), ?_⟩
          have : (Txt.replace (S (sh l)) "z" "Z").cps.toList.length = (Txt.replace (S (sh l)) "z" "Z").length := by rw [← S_len, S_eta]
          rw [List.length_append, this]
          exact Nat.le_trans (Nat.add_le_add_right rl2 2) (by omega)
        rcases List.mem_cons.mp hx with rfl | hx
        · refine ⟨_, congrArg V.str ?_, bent_dup2 lgd, ?_⟩
          · rw [mul01 _ (l = .nil), show (Str.ofString "+") = S [43] from lit_plus, ← S_app]
            congr 1
            split <;> rfl
          · rw [List.length_append]
            have : (if l = .nil then [43] else [] : List Nat).length ≤ 1 := by split <;> decide
            omega
        exact absurd hx List.not_mem_nil
    · rw [List.length_append, len1]
      rfl
  refine ⟨_, rfl, a, xs, rfl, .inr (SqT.same S08 ha), _, _, rfl, rfl, .inr ⟨_, rfl, _, _, rfl, rfl, one01 _, _, _, rfl, rfl, ?_, _, _, _, rfl, rfl, e8, ?_, ?_⟩⟩
  · rw [S_len]
    have := mul_len (z := Str.ofString "]") (c := (xs.length : Int) < 2) (n := 1) (by decide +kernel)
    omega
  · omega
  have hz6n : H z6 = none := Same.free ((S13.trans (same_new hp4 _)).trans (same_new hp5 _)) hz6
  have hpz : z6 ≠ p := fun e => by
    obtain ⟨d, k, e1, _⟩ := hp
    rw [← e, hz6n] at e1
    cases e1
  refine ⟨_, rfl, _, rfl, _, rfl, z6, _, rfl, .inl (SqL.of upd_same), p, _, rfl, hp.same (Same.upd_at hz6n S08 _), ?_, ?_, fun v H9 v0 v1 dr => ?_⟩
  · rw [List.length_append, len8]
    show (1 : Int) ≤ ((15 + 1 : Nat) : Int)
    decide
  · rw [List.length_append, len8]
    show ((15 + 1 : Nat) : Int) ≤ 1000000
    decide
  obtain ⟨x, ax, mx⟩ := at_mem v0 v1
  have bx : Bad x := by
    rcases List.mem_append.mp mx with hx | hx
    · exact B8 x hx
    · rw [List.mem_singleton.mp hx]
      refine ⟨_, congrArg V.str ?_, bent_rev2 lgd lok ldeep, ?_⟩
      · rw [mul01 _ ((xs.length : Int) < 2), show (Str.ofString "]") = S [93] from lit_c, ← S_app, hxl]
        congr 1
        by_cases h2 : l.len < 2
        · rw [if_pos h2, if_pos (by omega)]
        · rw [if_neg h2, if_neg (by omega)]
      · rw [List.length_append]
        have : (if l.len < 2 then [93] else [] : List Nat).length ≤ 1 := by split <;> decide
        omega
  obtain ⟨t, rfl, t1, t2⟩ := bx
  refine ⟨z6, _, v, _, rfl, rfl, SqL.of (dr.1 z6 _ hpz upd_same), ax, q t H9 t1 t2 ⟨fun b o hb e => dr.1 b o hb (Same.upd_at hz6n S08 _ b o e), dr.2⟩⟩
end
end K11
/-! Qg -/
namespace K11
open PySem L2 Lad
abbrev sOther : Stmt := topS 53
theorem scOther : FnScope ["_law_purse_here", "_law_text", "_law_some", "_law_sign", "_law_at_here", "_law_way"] ["_law_purse_here", "_law_text"] (defScope sOther) := ⟨rfl, rfl, rfl, by decide +kernel, rfl, by decide +kernel, by decide +kernel⟩
/-- how many [ -/
def cnt (t : List Nat) : Nat := t.count 91
def spOther (K : PySem.W.Frag) : Sp := fun vs H Q _ => ∃ (p : Addr) (t : List Nat), vs = [.ref p, T t] ∧ Purse H p ∧ t.length ≤ 4000 ∧ ∀ t' H', t'.length ≤ t.length + 1 → cnt t' ≤ cnt t + 1 → Drawn p H H' → Q (T t') H'
theorem cut_take (t : List Nat) (a : Nat) : cutS (S t) none (some (a : Int)) = S (t.take a) := by
  refine str_ext ?_
  unfold cutS
  rw [HT.sIx_nat, HT.sIx_none, S_len]
  show (t.drop 0).take (min a t.length - 0) = t.take a
  rw [List.drop_zero, Nat.sub_zero]
  by_cases h : a ≤ t.length
  · rw [Nat.min_eq_left h]
  · rw [Nat.min_eq_right (by omega), List.take_of_length_le (Nat.le_refl _), List.take_of_length_le (by omega)]
theorem cut_drop (t : List Nat) (a : Nat) : cutS (S t) (some (a : Int)) none = S (t.drop a) := by
  refine str_ext ?_
  unfold cutS
  rw [HT.sIx_nat, HT.sIx_none, S_len]
  show (t.drop (min a t.length)).take (t.length - min a t.length) = t.drop a
  rw [List.take_of_length_le (by rw [List.length_drop]; exact Nat.le_refl _)]
  by_cases h : a ≤ t.length
  · rw [Nat.min_eq_left h]
  · rw [Nat.min_eq_right (by omega), List.drop_of_length_le (Nat.le_refl _), List.drop_of_length_le (by omega)]
theorem cnt_app (a b : List Nat) : cnt (a ++ b) = cnt a + cnt b := List.count_append
theorem cnt_cut (t : List Nat) (a : Nat) : cnt (t.take a) + cnt (t.drop a) = cnt t := by
  rw [← cnt_app, List.take_append_drop]
theorem cnt_drop (t : List Nat) (a : Nat) : cnt (t.drop (a + 1)) ≤ cnt (t.drop a) := by
  rw [show t.drop (a + 1) = (t.drop a).drop 1 by rw [List.drop_drop]]
  exact (List.drop_sublist 1 _).count_le 91
theorem cnt_one (c : Nat) : cnt [c] ≤ 1 := by
  have := List.count_le_length (a := 91) (l := [c])
  simpa [cnt] using this
theorem at_in {α : Type} {xs : List α} {v : Int} (h0 : 0 ≤ v) (h1 : v < (xs.length : Nat)) : ∃ x, atI xs v = some x := by
  have hl : v.toNat < xs.length := by omega
  refine ⟨xs[v.toNat], ?_⟩
  have := atI_nat (xs := xs) (List.getElem?_eq_getElem hl)
  rwa [show ((v.toNat : Nat) : Int) = v by omega] at this
section
variable {P : Program} {w : World} {K : PySem.W.Frag} {mg : Str → Option Value} {base : Heap} {f g h : Addr} {fd gd' hd' : FuncData}
theorem ok_other (F : Fun K "_law_other_sign" "_law_other_sign" sOther f fd)
    (GD : FnOk P w K mg base CX0 1 g gd' ["_law_purse_here", "_law_many_here"] spDraw) (bD : Binds K gd' ["_law_purse_here", "_law_many_here"] []) (kD : PySem.W.keepIn K (.ref g) = true) (mD : mg "_law_draw" = some (.ref g))
    (ml : mg "len" = none) : FnOk P w K mg base CX0 2 f fd ["_law_purse_here", "_law_text"] (spOther K) := by
  refine F.ok scOther (fun vs H Q E h => ?_) (fun cdv A outer s H vs Q E hr h => ?_)
  · obtain ⟨p, t, rfl, _⟩ := h
    rfl
  obtain ⟨p, t, rfl, hp, hl, q⟩ := h
  have hrD : Room 1 _ := hr.mono (by decide)
  refine ⟨_, pss_cons (ps_set (i := 2) scOther.nd rfl (.inl rfl) (pe_str))
    (pss_cons (ps_set (i := 2) scOther.nd rfl (.inl rfl) (pe_op op_add_str (pv 2) pe_str))
    (pss_cons (ps_set (i := 3) scOther.nd rfl (.inl rfl) (pe_ix ix_str pe_str (pe_call GD hrD (by rfl) mD kD bD .nil pass0 (pa_cons (pv 0) (pa_cons (pe_int) pa_nil))) (fun _ _ => rfl)))
    (pss_cons (ps_if (pt_cmpR op_eq (pe_call GD hrD (by rfl) mD kD bD .nil pass0 (pa_cons (pv 0) (pa_cons (pe_int) pa_nil))) pe_int (nomark _)) (pss_one (ps_set (i := 3) scOther.nd rfl (.inl rfl) (pe_ix ix_str (pv 2) (pe_call GD hrD (by rfl) mD kD bD .nil pass0 (pa_cons (pv 0) (pa_cons (pe_callB call_len_str (by rfl) ml PySem.boot_len (pa_cons (pv 2) pa_nil)) pa_nil))) (fun _ _ => rfl)))) pss_nil)
    (pss_cons (ps_set (i := 4) scOther.nd rfl (.inl rfl) (pe_call GD hrD (by rfl) mD kD bD .nil pass0 (pa_cons (pv 0) (pa_cons (pe_op op_add (pe_callB call_len_str (by rfl) ml PySem.boot_len (pa_cons (pv 1) pa_nil)) pe_int) pa_nil))))
    (pss_cons (ps_set (i := 5) scOther.nd rfl (.inl rfl) (pe_call GD hrD (by rfl) mD kD bD .nil pass0 (pa_cons (pv 0) (pa_cons (pe_int) pa_nil))))
    (pss_cons (ps_if (pt_cmpR op_eq (pv 5) pe_int (nomark _)) (pss_one (ps_ret (pe_op op_add_str (pe_op op_add_str (pe_slice sl_str (pv 1) po_none (po_some (pv 4))) (pv 3)) (pe_slice sl_str (pv 1) (po_some (pv 4)) po_none)))) pss_nil)
    (pss_cons (ps_if (pt_cmpR op_eq (pv 5) pe_int (nomark _)) (pss_one (ps_ret (pe_op op_add_str (pe_slice sl_str (pv 1) po_none (po_some (pv 4))) (pe_slice sl_str (pv 1) (po_some (pe_op op_add (pv 4) pe_int)) po_none)))) pss_nil)
    (pss_one (ps_ret (pe_op op_add_str (pe_op op_add_str (pe_slice sl_str (pv 1) po_none (po_some (pv 4))) (pv 3)) (pe_slice sl_str (pv 1) (po_some (pe_op op_add (pv 4) pe_int)) po_none))))))))))), ?_⟩
  have big := big16
  have lz : (S t).length ≤ sizeLine := by rw [S_len]; omega
  refine ⟨_, rfl, _, _, rfl, rfl, by decide +kernel, _, rfl, p, 20, rfl, hp, by decide, by decide, fun v H1 v0 v1 D1 => ?_⟩
  obtain ⟨c0, hc0⟩ := at_in (xs := (Str.ofString "z[]*+0123456789 -Z_x").cps.toList) v0 (by rw [show (Str.ofString "z[]*+0123456789 -Z_x").cps.toList.length = 20 by decide +kernel]; exact v1)
  refine ⟨_, v, c0, rfl, rfl, by decide +kernel, hc0, _, rfl, p, 2, rfl, D1.2, by decide, by decide, fun v' H2 _ _ D2 => ⟨rfl, _, rfl, ?_⟩⟩
  have D12 := D1.trans D2
  refine ite2 (fun _ => ?_) (fun _ => ?_)
  · refine ⟨_, rfl, _, rfl, _, rfl, _, rfl, by decide +kernel, p, _, rfl, D2.2, by decide +kernel, by decide +kernel, fun v2 H3 w0 w1 D3 => ?_⟩
    obtain ⟨c1, hc1⟩ := at_in (xs := (Str.ofString "!\"#$&'()*+,-./0123456789:;<=>?@ABCDEFGHIJKLMNOPQRSTUVWXYZ" ++ Str.ofString "[\\]^_`abcdefghijklmnopqrstuvwxyz{|}~ \t\n").cps.toList) w0 w1
    refine ⟨_, v2, c1, rfl, rfl, by decide +kernel, hc1, ?_⟩
    refine ⟨_, rfl, _, rfl, _, rfl, lz, _, _, rfl, rfl, p, _, rfl, (D12.trans D3).2, ?_, ?_, fun a H8 a0 a1 D8 => ?_⟩
    · rw [S_len]
      omega
    · rw [S_len]
      omega
    obtain ⟨n, rfl⟩ : ∃ n : Nat, a = n := ⟨a.toNat, by omega⟩
    rw [S_len] at a1
    refine ⟨_, rfl, p, 3, rfl, D8.2, by decide, by decide, fun y H9 _ _ D9 => ?_⟩
    have DD := ((D12.trans D3).trans D8).trans D9
    have l1 : (t.take n).length ≤ t.length := by rw [List.length_take]; omega
    have l2 : (t.take n).length + (t.drop n).length = t.length := by rw [List.length_take, List.length_drop]; omega
    have l3 : (t.drop (n + 1)).length ≤ (t.drop n).length := by rw [List.length_drop, List.length_drop]; omega
    have k1 := cnt_cut t n
    have k2 := cnt_drop t n
    have k3 := cnt_one c1
    have e1 : cutS (S t) none (some (n : Int)) = S (t.take n) := cut_take t n
    have e2 : cutS (S t) (some (n : Int)) none = S (t.drop n) := cut_drop t n
    have e3 : cutS (S t) (some ((n : Int) + 1)) none = S (t.drop (n + 1)) := cut_drop t (n + 1)
    refine ⟨_, rfl, rfl, _, rfl, ?_⟩
    refine ite2 (fun _ => ⟨_, rfl, _, rfl, _, rfl, _, rfl, lz, _, rfl, _, _, rfl, rfl, ?_, _, rfl, _, rfl, _, rfl, _, rfl, lz, _, _, rfl, rfl, ?_, ?_⟩) (fun _ => ⟨_, rfl, rfl, _, rfl, ?_⟩)
    · rw [e1, show (⟨#[c1]⟩ : Str) = S [c1] from rfl, S_len, S_len]
      simp only [List.length_singleton]
      omega
    · rw [e1, e2, show (⟨#[c1]⟩ : Str) = S [c1] from rfl, S_app, S_len, S_len]
      simp only [List.length_append, List.length_singleton]
      omega
    · rw [e1, e2, show (⟨#[c1]⟩ : Str) = S [c1] from rfl, S_app, S_app]
      refine q _ _ ?_ ?_ DD
      · simp only [List.length_append, List.length_singleton]
        omega
      · rw [cnt_app, cnt_app]
        omega
    refine ite2 (fun _ => ⟨_, rfl, _, rfl, _, rfl, _, rfl, lz, _, rfl, _, rfl, _, _, rfl, rfl, _, rfl, _, rfl, lz, _, _, rfl, rfl, ?_, ?_⟩) (fun _ => ⟨_, rfl, _, rfl, _, rfl, _, rfl, lz, _, rfl, _, _, rfl, rfl, ?_, _, rfl, _, rfl, _, _, rfl, rfl, _, rfl, _, rfl, lz, _, _, rfl, rfl, ?_, ?_⟩)
    · rw [e1, e3, S_len, S_len]
      omega
    · rw [e1, e3, S_app]
      refine q _ _ ?_ ?_ DD
      · simp only [List.length_append]
        omega
      · rw [cnt_app]
        omega
    · rw [e1, show (⟨#[c1]⟩ : Str) = S [c1] from rfl, S_len, S_len]
      simp only [List.length_singleton]
      omega
    · rw [e1, e3, show (⟨#[c1]⟩ : Str) = S [c1] from rfl, S_app, S_len, S_len]
      simp only [List.length_append, List.length_singleton]
      omega
    · rw [e1, e3, show (⟨#[c1]⟩ : Str) = S [c1] from rfl, S_app, S_app]
      refine q _ _ ?_ ?_ DD
      · simp only [List.length_append, List.length_singleton]
        omega
      · rw [cnt_app, cnt_app]
        omega
  · refine ⟨_, rfl, _, rfl, _, rfl, lz, _, _, rfl, rfl, p, _, rfl, (D12).2, ?_, ?_, fun a H8 a0 a1 D8 => ?_⟩
    · rw [S_len]
      omega
    · rw [S_len]
      omega
    obtain ⟨n, rfl⟩ : ∃ n : Nat, a = n := ⟨a.toNat, by omega⟩
    rw [S_len] at a1
    refine ⟨_, rfl, p, 3, rfl, D8.2, by decide, by decide, fun y H9 _ _ D9 => ?_⟩
    have DD := ((D12).trans D8).trans D9
    have l1 : (t.take n).length ≤ t.length := by rw [List.length_take]; omega
    have l2 : (t.take n).length + (t.drop n).length = t.length := by rw [List.length_take, List.length_drop]; omega
    have l3 : (t.drop (n + 1)).length ≤ (t.drop n).length := by rw [List.length_drop, List.length_drop]; omega
    have k1 := cnt_cut t n
    have k2 := cnt_drop t n
    have k3 := cnt_one c0
    have e1 : cutS (S t) none (some (n : Int)) = S (t.take n) := cut_take t n
    have e2 : cutS (S t) (some (n : Int)) none = S (t.drop n) := cut_drop t n
    have e3 : cutS (S t) (some ((n : Int) + 1)) none = S (t.drop (n + 1)) := cut_drop t (n + 1)
    refine ⟨_, rfl, rfl, _, rfl, ?_⟩
    refine ite2 (fun _ => ⟨_, rfl, _, rfl, _, rfl, _, rfl, lz, _, rfl, _, _, rfl, rfl, ?_, _, rfl, _, rfl, _, rfl, _, rfl, lz, _, _, rfl, rfl, ?_, ?_⟩) (fun _ => ⟨_, rfl, rfl, _, rfl, ?_⟩)
    · rw [e1, show (⟨#[c0]⟩ : Str) = S [c0] from rfl, S_len, S_len]
      simp only [List.length_singleton]
      omega
    · rw [e1, e2, show (⟨#[c0]⟩ : Str) = S [c0] from rfl, S_app, S_len, S_len]
      simp only [List.length_append, List.length_singleton]
      omega
    · rw [e1, e2, show (⟨#[c0]⟩ : Str) = S [c0] from rfl, S_app, S_app]
      refine q _ _ ?_ ?_ DD
      · simp only [List.length_append, List.length_singleton]
        omega
      · rw [cnt_app, cnt_app]
        omega
    refine ite2 (fun _ => ⟨_, rfl, _, rfl, _, rfl, _, rfl, lz, _, rfl, _, rfl, _, _, rfl, rfl, _, rfl, _, rfl, lz, _, _, rfl, rfl, ?_, ?_⟩) (fun _ => ⟨_, rfl, _, rfl, _, rfl, _, rfl, lz, _, rfl, _, _, rfl, rfl, ?_, _, rfl, _, rfl, _, _, rfl, rfl, _, rfl, _, rfl, lz, _, _, rfl, rfl, ?_, ?_⟩)
    · rw [e1, e3, S_len, S_len]
      omega
    · rw [e1, e3, S_app]
      refine q _ _ ?_ ?_ DD
      · simp only [List.length_append]
        omega
      · rw [cnt_app]
        omega
    · rw [e1, show (⟨#[c0]⟩ : Str) = S [c0] from rfl, S_len, S_len]
      simp only [List.length_singleton]
      omega
    · rw [e1, e3, show (⟨#[c0]⟩ : Str) = S [c0] from rfl, S_app, S_len, S_len]
      simp only [List.length_append, List.length_singleton]
      omega
    · rw [e1, e3, show (⟨#[c0]⟩ : Str) = S [c0] from rfl, S_app, S_app]
      refine q _ _ ?_ ?_ DD
      · simp only [List.length_append, List.length_singleton]
        omega
      · rw [cnt_app, cnt_app]
        omega
end
end K11
/-! Qh -/
namespace K11
open PySem L2 Lad
abbrev sRef : Stmt := topS 54
theorem scRef : FnScope ["_law_text", "e"] ["_law_text"] (defScope sRef) := ⟨rfl, rfl, rfl, by decide +kernel, rfl, by decide +kernel, by decide +kernel⟩
def spRef : Sp := fun vs H Q _ => ∃ t : List Nat, vs = [T t] ∧ t.length ≤ 50000 ∧ rd t = none ∧ ∀ H', Same H H' → Q (.bl true) H'
/-- another class than C -/
structure OthT (K : PySem.W.Frag) (mg : Str → Option Value) (C : Addr) (x : Str) (c : Addr) : Prop where
  g : mg x = some (.ref c)
  s : PySem.W.subIn K (.ref C) (.ref c) = some false
  i : PySem.W.isClsIn K c = true
  t : PySem.W.typeIn K (.ref c) = some (.type "type")
/-- more of the class C and of the class over all, CF -/
structure ErrM (K : PySem.W.Frag) (mg : Str → Option Value) (C CF : Addr) : Prop where
  E : ExcC K C
  s : PySem.W.subIn K (.ref C) (.ref C) = some true
  v : PySem.W.subIn K (.ref C) (.type "ValueError") = some true
  g : mg "FellError" = some (.ref CF)
  b : PySem.W.subIn K (.ref CF) (.type "BaseException") = some true
  d : PySem.W.hasDictIn K CF = true
  t : PySem.W.typeIn K (.ref CF) = some (.type "type")
  o : PySem.W.subIn K (.ref C) (.ref CF) = some true
theorem OthT.kit {K : PySem.W.Frag} {mg : Str → Option Value} {C : Addr} {x : Str} {c : Addr} (O : OthT K mg C x c) (hs : PySem.W.subIn K (.ref C) (.ref C) = some true) : PySem.W.kitOne K (.ref C) (.ref c) = some false := by
  unfold PySem.W.kitOne
  have hne : ((Value.ref C) == (Value.ref c)) = false := by
    refine Bool.eq_false_iff.mpr fun q => ?_
    have e : C = c := Value.ref.inj (beq_iff_eq.mp q)
    have := O.s
    rw [← e, hs] at this
    cases this
  rw [hne, if_neg (by decide)]
  show (if ((PySem.W.clsIn K c).isSome && PySem.W.typeIn K (.ref c) == some (.type "type")) = true then PySem.W.subIn K (.ref C) (.ref c) else none) = some false
  rw [show (PySem.W.clsIn K c).isSome = true from O.i, O.t, O.s]
  rfl
theorem kit_no {K : PySem.W.Frag} {t c : Value} {r : List Value} (h : PySem.W.kitOne K t c = some false) (h2 : PySem.W.kitAny K t r = some false) : PySem.W.kitAny K t (c :: r) = some false := by
  show (match PySem.W.kitOne K t c with | some true => some true | some false => PySem.W.kitAny K t r | none => none) = some false
  rw [h]
  exact h2
/-- isinstance(e, (c1, ..)), e the exception that the suite holds -/
def rIsET (K : PySem.W.Frag) (D a : Addr) : List V → Hp → VK → Prop := fun xs H Q => ∃ (tp : Addr) (cs : List V) (us : List Value) (b : Bool), xs = [.ref a, .ref tp] ∧ H tp = some (.tup cs) ∧ Paired ClsV cs us ∧ PySem.W.kitAny K (.ref D) us = some b ∧ Q (.bl b) H
theorem call_isET {X : Cx} {a D : Addr} {oe : Obj} {pn : List (Addr × Obj)} (C : ExcC X.K D) (hz : Zc (.ref D) none oe) (hf : ∃ vs, oe.data = .fields vs) : CallR (X.suite a ((a, oe) :: pn)) (.builtin "isinstance") (rIsET X.K D a) := by
  intro pins s σ H xs us Q I r h
  obtain ⟨tp, cs, ws, b, rfl, hT, k, e, q⟩ := h
  obtain ⟨u1, u2, rfl, r1, r2⟩ := vals2 r
  cases (show u1 = Value.ref a from r1)
  cases (show u2 = Value.ref tp from r2)
  obtain ⟨_, its, rv, o, h1, h2, n, h3⟩ := (show ObjOk X.prog X.w H s.heap tp (.tup cs) from I.hok tp _ hT)
  have e3 := ClsV.all k rv
  subst e3
  obtain ⟨hget, _⟩ := I.pin (a, oe) (List.mem_append.mpr (.inl List.mem_cons_self))
  obtain ⟨vs, hv⟩ := hf
  have J : PySem.W.InstAt s.heap a oe D none := by
    obtain ⟨oc, od, oda, osl⟩ := oe
    obtain ⟨h1, h2⟩ := hz
    dsimp only at h1 h2 hv
    subst h1 h2 hv
    exact ⟨hget, rfl, rfl, trivial⟩
  obtain ⟨oc, od, dt, sl⟩ := o
  simp only at h2 h3
  subst h2 h3
  exact PySem.W.kia_tup (PySem.W.handS_kitx_exc C.hg C.hk C.hs C.hd C.ha C.hn C.ht C.hm) I.kIn J h1 e (fun z => nomatch z) fun tk => ⟨.bl b, H, I.kept (t' := tk) fun _ _ z => z, rfl, q⟩
section
variable {P : Program} {w : World} {K : PySem.W.Frag} {mg : Str → Option Value} {base : Heap} {f g C CF : Addr} {fd gd' : FuncData} {c0 c1 c2 c3 c4 c5 c6 c7 c8 c9 c10 c11 c12 c13 c14 c15 c16 c17 : Addr}
/-- the suite, the error held at a -/
def tRefS (K : PySem.W.Frag) (C c0 c1 c2 c3 c4 c5 c6 c7 c8 c9 c10 c11 c12 c13 c14 c15 c16 c17 a : Addr) : TS :=
  tSeq (tIfS (tTest (tCB (rIsET K C a) (tCons (tVar 1) (tCons (tTup (tCons (tC (.ref c0)) (tCons (tC (.ref c1)) (tCons (tC (.ref c2)) (tCons (tC (.ref c3)) (tCons (tC (.ref c4)) (tCons (tC (.ref c5)) (tCons (tC (.ref c6)) (tCons (tC (.ref c7)) (tCons (tC (.ref c8)) (tCons (tC (.ref c9)) (tNil)))))))))))) tNil)))) (tRet (tC (.bl false))) tNext)
  (tSeq (tIfS (tTest (tCB (rIsET K C a) (tCons (tVar 1) (tCons (tTup (tCons (tC (.ref c10)) (tCons (tC (.ref c11)) (tCons (tC (.ref c12)) (tCons (tC (.ref c13)) (tCons (tC (.ref c14)) (tCons (tC (.ref c15)) (tCons (tC (.ref c16)) (tCons (tC (.ref c17)) (tNil)))))))))) tNil)))) (tRet (tC (.bl false))) tNext)
  (tRet (tAndV (tCB (rIsE K C a) (tCons (tVar 1) (tCons (tC (.ref C)) tNil))) (tCB (rIsE K C a) (tCons (tVar 1) (tCons (tC (.ty "ValueError")) tNil))))))
def tRefC (K : PySem.W.Frag) (C c0 c1 c2 c3 c4 c5 c6 c7 c8 c9 c10 c11 c12 c13 c14 c15 c16 c17 : Addr) : Addr → Value → Option Addr → TS := fun a cls d D σ H => (cls = .ref C ∧ d = none) ∧ tRefS K C c0 c1 c2 c3 c4 c5 c6 c7 c8 c9 c10 c11 c12 c13 c14 c15 c16 c17 a D σ H
theorem pss_when {X : Cx} {st : List Stmt} {p : Prop} {t : TS} (h : p → PSs X st t) : PSs X st (fun D σ H => p ∧ t D σ H) := ⟨fun pins s σ H D I hh => (h hh.1).run pins s σ H D I hh.2⟩
theorem zc_to {c cls : Value} {d : Option Addr} {oe : Obj} (e : cls = c ∧ d = none) (h : Zc cls d oe) : Zc c none oe := by
  obtain ⟨rfl, rfl⟩ := e
  exact h
theorem boot_isi : bootBuiltins "isinstance" = some (.builtin "isinstance") := by decide +kernel
theorem boot_ve : bootBuiltins "ValueError" = some (.type "ValueError") := by decide +kernel
theorem ok_ref (F : Fun K "_law_refused" "_law_refused" sRef f fd) (X : ErrT K mg C) (M : ErrM K mg C CF)
    (o0 : OthT K mg C "NoRest" c0) (o1 : OthT K mg C "NoGrove" c1) (o2 : OthT K mg C "NoPlace" c2) (o3 : OthT K mg C "NoBook" c3) (o4 : OthT K mg C "NoKind" c4) (o5 : OthT K mg C "NoRule" c5) (o6 : OthT K mg C "NoNumber" c6) (o7 : OthT K mg C "TooGreat" c7) (o8 : OthT K mg C "NoRise" c8) (o9 : OthT K mg C "NoFall" c9) (o10 : OthT K mg C "Endless" c10) (o11 : OthT K mg C "NotEndless" c11) (o12 : OthT K mg C "NoWorths" c12) (o13 : OthT K mg C "NoDrop" c13) (o14 : OthT K mg C "NoReach" c14) (o15 : OthT K mg C "TooLong" c15) (o16 : OthT K mg C "NoRow" c16) (o17 : OthT K mg C "NoName" c17)
    (G : FnOk P w K mg base (L2.CX P w) 38 g gd' ["text"] (spRead K C)) (bG : Binds K gd' ["text"] []) (kG : PySem.W.keepIn K (.ref g) = true) (mG : mg "read_ladder" = some (.ref g))
    (mis : mg "isinstance" = none) (mve : mg "ValueError" = none) : FnOk P w K mg base CX0 39 f fd ["_law_text"] spRef := by
  refine F.ok scRef (fun vs H Q E h => ?_) (fun cdv A outer s H vs Q E hr h => ?_)
  · obtain ⟨t, rfl, _⟩ := h
    rfl
  obtain ⟨t, rfl, hl, hn, q⟩ := h
  have hrG : Room 38 _ := hr.mono (by decide)
  refine ⟨_, pss_cons (ps_try_as (i := 1) (ts := tRefC K C c0 c1 c2 c3 c4 c5 c6 c7 c8 c9 c10 c11 c12 c13 c14 c15 c16 c17) (Wout := fun _ _ _ _ => False) rfl rfl scRef.nd rfl rfl ⟨rfl, by decide, Or.inl M.g⟩ takes0
      (fun W pn xe tk _ => pss_one (ps_expr (pe_callS G hrG (by rfl) mG kG bG (fun σ => passAt tk σ) (pa_cons (pv 0) pa_nil))))
      (fun a oe cls d pn hz hf => pss_when fun e => pss_cons (ps_if (pt_val (pe_callB (call_isET M.E (zc_to e hz) hf) (by rfl) mis boot_isi (pa_cons (pv 1) (pa_cons (pe_tup (pa_cons (pe_glob (v := .ref c0) (by rfl) o0.g rfl) (pa_cons (pe_glob (v := .ref c1) (by rfl) o1.g rfl) (pa_cons (pe_glob (v := .ref c2) (by rfl) o2.g rfl) (pa_cons (pe_glob (v := .ref c3) (by rfl) o3.g rfl) (pa_cons (pe_glob (v := .ref c4) (by rfl) o4.g rfl) (pa_cons (pe_glob (v := .ref c5) (by rfl) o5.g rfl) (pa_cons (pe_glob (v := .ref c6) (by rfl) o6.g rfl) (pa_cons (pe_glob (v := .ref c7) (by rfl) o7.g rfl) (pa_cons (pe_glob (v := .ref c8) (by rfl) o8.g rfl) (pa_cons (pe_glob (v := .ref c9) (by rfl) o9.g rfl) (pa_nil)))))))))))) pa_nil)))) (pss_one (ps_ret pe_bl)) pss_nil)
    (pss_cons (ps_if (pt_val (pe_callB (call_isET M.E (zc_to e hz) hf) (by rfl) mis boot_isi (pa_cons (pv 1) (pa_cons (pe_tup (pa_cons (pe_glob (v := .ref c10) (by rfl) o10.g rfl) (pa_cons (pe_glob (v := .ref c11) (by rfl) o11.g rfl) (pa_cons (pe_glob (v := .ref c12) (by rfl) o12.g rfl) (pa_cons (pe_glob (v := .ref c13) (by rfl) o13.g rfl) (pa_cons (pe_glob (v := .ref c14) (by rfl) o14.g rfl) (pa_cons (pe_glob (v := .ref c15) (by rfl) o15.g rfl) (pa_cons (pe_glob (v := .ref c16) (by rfl) o16.g rfl) (pa_cons (pe_glob (v := .ref c17) (by rfl) o17.g rfl) (pa_nil)))))))))) pa_nil)))) (pss_one (ps_ret pe_bl)) pss_nil)
    (pss_one (ps_ret (pe_and (pe_callB (call_isE M.E (zc_to e hz) hf) (by rfl) mis boot_isi (pa_cons (pv 1) (pa_cons (pe_glob (v := .ref C) (by rfl) X.g rfl) pa_nil))) (pe_one (pe_callB (call_isE M.E (zc_to e hz) hf) (by rfl) mis boot_isi (pa_cons (pv 1) (pa_cons (pe_bltn (v := .ty "ValueError") (by rfl) mve boot_ve rfl) pa_nil))))))))))
    (pss_one (ps_ret pe_bl)), ?_⟩
  have kv : PySem.W.kitOne K (.ref C) (.type "ValueError") = some true := by
    show (if PySem.W.kitMeta "ValueError" = true then PySem.W.subIn K (.ref C) (.type "ValueError") else none) = some true
    rw [if_pos (by decide +kernel), M.v]
  have kc : PySem.W.kitOne K (.ref C) (.ref C) = some true := by
    unfold PySem.W.kitOne
    rw [if_pos (beq_self_eq_true _)]
  refine ⟨_, rfl, t, rfl, hl, fun _ H1 S1 => ⟨true, PySem.W.exm_ref M.b M.d M.t M.o, fun _ a ha => ?_, fun z => nomatch z⟩, fun l hl => by rw [hn] at hl; cases hl⟩
  refine ⟨⟨rfl, rfl⟩, _, rfl, by show 10 ≤ sizeLine; decide, fun p1 hp1 => ⟨p1, _, _, false, rfl, upd_same, (.cons (.own _) (.cons (.own _) (.cons (.own _) (.cons (.own _) (.cons (.own _) (.cons (.own _) (.cons (.own _) (.cons (.own _) (.cons (.own _) (.cons (.own _) .nil)))))))))), kit_no (o0.kit M.s) (kit_no (o1.kit M.s) (kit_no (o2.kit M.s) (kit_no (o3.kit M.s) (kit_no (o4.kit M.s) (kit_no (o5.kit M.s) (kit_no (o6.kit M.s) (kit_no (o7.kit M.s) (kit_no (o8.kit M.s) (kit_no (o9.kit M.s) (rfl)))))))))), _, rfl, iteF ?_⟩⟩
  refine ⟨_, rfl, by show 8 ≤ sizeLine; decide, fun p2 hp2 => ⟨p2, _, _, false, rfl, upd_same, (.cons (.own _) (.cons (.own _) (.cons (.own _) (.cons (.own _) (.cons (.own _) (.cons (.own _) (.cons (.own _) (.cons (.own _) .nil)))))))), kit_no (o10.kit M.s) (kit_no (o11.kit M.s) (kit_no (o12.kit M.s) (kit_no (o13.kit M.s) (kit_no (o14.kit M.s) (kit_no (o15.kit M.s) (kit_no (o16.kit M.s) (kit_no (o17.kit M.s) (rfl)))))))), _, rfl, iteF ?_⟩⟩
  refine ⟨_, rfl, _, _, true, rfl, (fun u r => r), kc, _, rfl, iteT ⟨_, rfl, _, _, true, rfl, (fun u r => r), kv, q _ ((S1.trans (same_new hp1 _)).trans (same_new hp2 _))⟩⟩
end
end K11
/-! Qi -/
namespace K11
open PySem L2 Lad
abbrev sLNum : Stmt := topS 55
theorem scLNum : FnScope ["_law_text", "_law_at_here", "_law_end"] ["_law_text", "_law_at_here"] (defScope sLNum) := ⟨rfl, rfl, rfl, by decide +kernel, rfl, by decide +kernel, by decide +kernel⟩
/-- _law_number_at -/
def spLNum : Sp := fun vs H Q _ => ∃ (t : List Nat) (a : Nat), vs = [T t, .int a] ∧ t.length ≤ 100000 ∧ a ≤ t.length ∧
  (pNum 60 (t.drop a) = none → ∀ H', Same H H' → Q .non H') ∧
  ∀ m r, pNum 60 (t.drop a) = some (m, r) → ∀ p H', Same H H' → H' p = some (.tup [.int m, .int ((t.length - r.length : Nat))]) → Q (.ref p) H'
section
variable {P : Program} {w : World} {K : PySem.W.Frag} {mg : Str → Option Value} {base : Heap} {f : Addr} {fd : FuncData}
theorem ok_lNum (F : Fun K "_law_number_at" "_law_number_at" sLNum f fd) (ml : mg "len" = none) (mi : mg "int" = none) : FnOk P w K mg base CX0 1 f fd ["_law_text", "_law_at_here"] spLNum := by
  refine F.ok scLNum (fun vs H Q E h => ?_) (fun cdv A outer s H vs Q E hr h => ?_)
  · obtain ⟨t, a, rfl, _⟩ := h
    rfl
  obtain ⟨t, a, rfl, hl, ha, qN, qS⟩ := h
  refine ⟨_, pss_cons (ps_set (i := 2) scLNum.nd rfl (.inl rfl) (pv 1))
    (pss_cons (ps_while PassesOwn.never (PW.pt (pw_and (pt_cmpR op_lt (pv 2) (pe_callB call_len_str rfl ml PySem.boot_len (pa_cons (pv 0) pa_nil)) (nomark _)) (pw_and1 (pt_cmpR op_in_sign (pe_item_str (pv 0) (pv 2) (fun _ _ => rfl)) pe_str rfl)))) (pss_one (ps_set (i := 2) scLNum.nd rfl (.inl rfl) (pe_op op_add (pv 2) pe_int))))
    (pss_cons (ps_if (PW.pt (pw_or (pt_cmpR op_eq (pv 2) (pv 1) (nomark _)) (pw_or1 (pt_cmpR op_gt (pv 2) (pe_op op_add (pv 1) pe_int) (nomark _))))) (pss_one (ps_ret pe_non)) pss_nil)
    (pss_one (ps_ret (pe_tup (pa_cons (pe_callTy call_int_str (by rfl) mi (by decide +kernel) (pa_cons (pe_slice sl_str (pv 0) (po_some (pv 1)) (po_some (pv 2))) pa_nil)) (pa_cons (pv 2) pa_nil))))))), ?_⟩
  have hd := drop_tw (t.drop a)
  rw [List.length_drop] at hd
  have big := big16
  refine ⟨_, rfl, ?_⟩
  refine ⟨fun m σ H1 => H1 = H ∧ ∃ k, σ = [some (T t), some (.int a), some (.int ((a + k : Nat)))] ∧ k ≤ ((t.drop a).takeWhile isFig).length ∧ m = ((t.drop a).takeWhile isFig).length - k, ⟨_, rfl, 0, rfl, Nat.zero_le _, rfl⟩, ?_⟩
  rintro m σ H1 ⟨rfl, k, rfl, hk, rfl⟩
  -- behind the loop
  have fin : k = ((t.drop a).takeWhile isFig).length → tSeq (tIfS (tOr (tTest (tOp rEq (tVar 2) (tVar 1))) (tTest (tOp (rI0 fun i j => .bl (decide (j < i))) (tVar 2) (tOp (rI0 fun i j => .int (i + j)) (tVar 1) (tC (.int 60)))))) (tRet (tC .non)) tNext)
      (tRet (tTup (tCons (tCB (fun xs H Q => ∃ a n, xs = [.str a] ∧ PySem.intText? a = some n ∧ a.length ≤ 640 ∧ Q (.int n) H) (tCons (tSl rSlS (tVar 0) (tPart (tVar 1)) (tPart (tVar 2))) tNil)) (tCons (tVar 2) tNil))))
      { nx := fun _ H' => Q .non H', rt := Q } [some (T t), some (.int a), some (.int ((a + k : Nat)))] H1 := by
    intro ek
    refine ⟨_, rfl, _, rfl, rfl, _, rfl, ?_⟩
    by_cases h0 : k = 0
    · have : pNum 60 (t.drop a) = none := by
        unfold pNum
        rw [if_pos (.inl (List.eq_nil_of_length_eq_zero (by omega)))]
      rw [decide_eq_true (show V.int ((a + k : Nat) : Int) = V.int ((a : Nat) : Int) by rw [h0]; rfl)]
      exact iteT (iteT (qN this H1 (Same.refl _)))
    · rw [decide_eq_false (show ¬ V.int ((a + k : Nat) : Int) = V.int ((a : Nat) : Int) from fun z => by have := V.int.inj z; omega)]
      refine iteF ⟨_, rfl, _, rfl, _, _, rfl, rfl, _, _, rfl, rfl, _, rfl, ?_⟩
      have hne : (t.drop a).takeWhile isFig ≠ [] := fun z => by rw [z] at ek; exact h0 (by simpa using ek)
      by_cases h60 : 60 < k
      · have : pNum 60 (t.drop a) = none := by
          unfold pNum
          rw [if_pos (.inr (by omega))]
        rw [decide_eq_true (show ((a : Nat) : Int) + 60 < ((a + k : Nat) : Int) by omega)]
        exact iteT (qN this H1 (Same.refl _))
      · have hp : pNum 60 (t.drop a) = some ((val ((t.drop a).takeWhile isFig) : Int), (t.drop a).dropWhile isFig) := by
          unfold pNum
          rw [if_neg]
          intro z
          rcases z with z | z
          · exact hne z
          · omega
        rw [decide_eq_false (show ¬ ((a : Nat) : Int) + 60 < ((a + k : Nat) : Int) by omega)]
        refine iteF ⟨_, rfl, _, rfl, _, rfl, _, rfl, _, rfl, S t, rfl, by rw [S_len]; omega, S ((t.drop a).takeWhile isFig), _, ?_, int_read (take_fig _) hne (by omega), by rw [S_len]; omega, _, rfl, by show 2 ≤ sizeLine; omega, fun p hp' => ?_⟩
        · rw [cut_nat, show a + k - a = k by omega, ek, take_tw]
        · refine qS _ _ hp p _ (same_new hp' _) ?_
          rw [upd_same]
          have e2 : ((a + k : Nat) : Int) = ((t.length - ((t.drop a).dropWhile isFig).length : Nat) : Int) := by omega
          rw [← e2]
  refine ⟨_, rfl, _, rfl, S t, rfl, by rw [S_len]; omega, _, _, rfl, rfl, _, rfl, ?_⟩
  rw [S_len]
  by_cases hin : a + k < t.length
  · rw [decide_eq_true (show ((a + k : Nat) : Int) < (t.length : Int) by omega)]
    have hc : t[a + k]? = some t[a + k] := List.getElem?_eq_getElem hin
    have hf := fig_next (t := t.drop a) hk (by rw [List.getElem?_drop]; exact hc)
    refine iteT ⟨_, rfl, _, rfl, S t, _, t[a + k], rfl, rfl, by omega, by omega, by rw [S_len]; omega, ?_, t[a + k], _, rfl, rfl, _, rfl, ?_⟩
    · show (S t).cps[a + k]? = some t[a + k]
      have : (S t).cps.toList[a + k]? = some t[a + k] := hc
      rw [Array.getElem?_toList] at this
      exact this
    · rw [mem_figs, hf]
      refine ite2 (fun c => ?_) (fun c => ?_)
      · have c' : k < ((t.drop a).takeWhile isFig).length := of_decide_eq_true c
        refine ⟨fun σ' H' => H' = H1 ∧ σ' = [some (T t), some (.int a), some (.int ((a + (k + 1) : Nat)))], ?_, ?_⟩
        · rintro σ' H' ⟨rfl, rfl⟩
          exact ⟨_, by omega, rfl, k + 1, rfl, by omega, rfl⟩
        · refine ⟨_, rfl, _, _, rfl, rfl, rfl, ?_⟩
          show [some (T t), some (.int a), some (.int (((a + k : Nat) : Int) + 1))] = _
          rw [show ((a + k : Nat) : Int) + 1 = ((a + (k + 1) : Nat) : Int) by omega]
      · have c' : ¬ k < ((t.drop a).takeWhile isFig).length := of_decide_eq_false (Bool.eq_false_iff.mpr c)
        exact fin (by omega)
  · rw [decide_eq_false (show ¬ ((a + k : Nat) : Int) < (t.length : Int) by omega)]
    exact iteF (iteF (fin (by omega)))
end
end K11
/-! Qj -/
namespace K11
open PySem L2 Lad
abbrev sLPair : Stmt := topS 56
theorem scLPair : FnScope ["_law_text", "_law_at_here", "_law_told", "_law_exponent", "_law_many_here"] ["_law_text", "_law_at_here"] (defScope sLPair) := ⟨rfl, rfl, rfl, by decide +kernel, rfl, by decide +kernel, by decide +kernel⟩
theorem cnt_suf {q t : List Nat} (h : q <:+ t) : cnt q ≤ cnt t := h.sublist.count_le 91
/-- _law_pair_at, under at most D brackets more -/
def spLPair (K : PySem.W.Frag) (D : Nat) : Sp := fun vs H Q _ => ∃ (t : List Nat) (a : Nat), vs = [T t, .int a] ∧ t.length ≤ 100000 ∧ a ≤ t.length ∧ cnt (t.drop a) ≤ D ∧
  (pPair 60 (pLad 60 D) (t.drop a) = none → ∀ H', Same H H' → Q .non H') ∧
  ∀ e m r, pPair 60 (pLad 60 D) (t.drop a) = some (e, m, r) → ∀ p vp H', Same H H' → H' p = some (.tup [vp, .int ((t.length - r.length : Nat))]) → PV K H' vp e m → Q (.ref p) H'
def spLPairs (K : PySem.W.Frag) (D : Nat) : Sp := fun vs H Q _ => ∃ (t : List Nat) (a : Nat), vs = [T t, .int a] ∧ t.length ≤ 100000 ∧ a ≤ t.length ∧ cnt (t.drop a) < D ∧
  (pLad 60 D (t.drop a) = none → ∀ H', Same H H' → Q .non H') ∧
  ∀ l r, pLad 60 D (t.drop a) = some (l, r) → ∀ p vl H', Same H H' → H' p = some (.tup [vl, .int ((t.length - r.length : Nat))]) → LV K H' vl l → Q (.ref p) H'
section
variable {P : Program} {w : World} {K : PySem.W.Frag} {mg : Str → Option Value} {base : Heap} {f g h : Addr} {fd gd' hd' : FuncData}
theorem ok_lPair {D : Nat} (F : Fun K "_law_pair_at" "_law_pair_at" sLPair f fd)
    (G : FnOk P w K mg base CX0 (2 * D + 1) g gd' ["_law_text", "_law_at_here"] (spLPairs K D)) (bG : Binds K gd' ["_law_text", "_law_at_here"] []) (kG : PySem.W.keepIn K (.ref g) = true) (mG : mg "_law_pairs_at" = some (.ref g))
    (GN : FnOk P w K mg base CX0 1 h hd' ["_law_text", "_law_at_here"] spLNum) (bN : Binds K hd' ["_law_text", "_law_at_here"] []) (kN : PySem.W.keepIn K (.ref h) = true) (mN : mg "_law_number_at" = some (.ref h)) :
    FnOk P w K mg base CX0 (2 * D + 2) f fd ["_law_text", "_law_at_here"] (spLPair K D) := by
  refine F.ok scLPair (fun vs H Q E h => ?_) (fun cdv A outer s H vs Q E hr h => ?_)
  · obtain ⟨t, a, rfl, _⟩ := h
    rfl
  obtain ⟨t, a, rfl, hl, ha, hcnt, qN, qS⟩ := h
  have hrN : Room 1 _ := hr.mono (by omega)
  have hrG : Room (2 * D + 1) _ := hr.mono (by omega)
  refine ⟨_, pss_cons (ps_if (pt_cmpR op_ne (pe_slice sl_str (pv 0) (po_some (pv 1)) (po_some (pe_op op_add (pv 1) pe_int))) pe_str (nomark _)) (pss_cons (ps_set (i := 2) scLPair.nd rfl (.inl rfl) (pe_call GN hrN (by rfl) mN kN bN .nil pass0 (pa_cons (pv 0) (pa_cons (pv 1) pa_nil)))) (pss_one (ps_ret (pe_ifExp (pt_cmpR op_isN (pv 2) pe_non (nomark _)) pe_non (pe_tup (pa_cons (pe_tup (pa_cons (pe_tup pa_nil) (pa_cons (pe_ix ix_tup (pv 2) pe_int (fun _ _ => rfl)) pa_nil))) (pa_cons (pe_ix ix_tup (pv 2) pe_int (fun _ _ => rfl)) pa_nil))))))) pss_nil)
    (pss_cons (ps_set (i := 3) scLPair.nd rfl (.inl rfl) (pe_tup (pa_cons (pe_tup (pa_cons (pe_tup pa_nil) (pa_cons pe_int pa_nil))) pa_nil)))
    (pss_cons (ps_set (i := 1) scLPair.nd rfl (.inl rfl) (pe_op op_add (pv 1) pe_int))
    (pss_cons (ps_if (pt_cmpR op_eq (pe_slice sl_str (pv 0) (po_some (pv 1)) (po_some (pe_op op_add (pv 1) pe_int))) pe_str (nomark _)) (pss_cons (ps_set (i := 2) scLPair.nd rfl (.inl rfl) (pe_call G hrG (by rfl) mG kG bG .nil pass0 (pa_cons (pv 0) (pa_cons (pe_op op_add (pv 1) pe_int) pa_nil)))) (pss_cons (ps_if (PW.pt (pw_or (pt_cmpR op_isN (pv 2) pe_non (nomark _)) (pw_or1 (pt_cmpR op_ne (pe_slice sl_str (pv 0) (po_some (pe_ix ix_tup (pv 2) pe_int (fun _ _ => rfl))) (po_some (pe_op op_add (pe_ix ix_tup (pv 2) pe_int (fun _ _ => rfl)) pe_int))) pe_str (nomark _))))) (pss_one (ps_ret pe_non)) pss_nil) (pss_one (ps_par (i := 3) (j := 1) (by rfl) scLPair.nd rfl rfl (by decide) rfl rfl (pa_cons (pe_ix ix_tup (pv 2) pe_int (fun _ _ => rfl)) (pa_cons (pe_op op_add (pe_ix ix_tup (pv 2) pe_int (fun _ _ => rfl)) pe_int) pa_nil)) (by rfl))))) pss_nil)
    (pss_cons (ps_set (i := 4) scLPair.nd rfl (.inl rfl) (pe_int))
    (pss_cons (ps_if (pt_cmpR op_eq (pe_slice sl_str (pv 0) (po_some (pv 1)) (po_some (pe_op op_add (pv 1) pe_int))) pe_str (nomark _)) (pss_cons (ps_set (i := 2) scLPair.nd rfl (.inl rfl) (pe_call GN hrN (by rfl) mN kN bN .nil pass0 (pa_cons (pv 0) (pa_cons (pe_op op_add (pv 1) pe_int) pa_nil)))) (pss_cons (ps_if (pt_cmpR op_isN (pv 2) pe_non (nomark _)) (pss_one (ps_ret pe_non)) pss_nil) (pss_one (ps_asg (pv 2) (pg_tup rfl (pgs_cons (pg_name (i := 4) scLPair.nd rfl (.inl rfl)) (pgs_cons (pg_name (i := 1) scLPair.nd rfl (.inl rfl)) pgs_nil))))))) pss_nil)
    (pss_one (ps_ret (pe_tup (pa_cons (pe_tup (pa_cons (pv 3) (pa_cons (pv 4) pa_nil))) (pa_cons (pv 1) pa_nil)))))))))), ?_⟩
  have big := big16
  refine ⟨_, rfl, _, rfl, _, rfl, _, rfl, _, _, rfl, rfl, _, rfl, S t, rfl, by rw [S_len]; omega, rfl, _, rfl, ?_⟩
  rw [cut_one t a _ _ rfl (by omega), lit_z]
  by_cases hz : ∃ r, t.drop a = 122 :: r
  · rw [sign_yes hz]
    obtain ⟨r0, hz⟩ := hz
    obtain ⟨hd1, hd2⟩ := drop_cons hz
    refine iteF ?_
    have hr0 : r0.length = t.length - (a + 1) := by rw [← hd1, List.length_drop]
    have hr0t : r0 <:+ t := by rw [← hd1]; exact List.drop_suffix _ _
    have cr0 : cnt r0 ≤ D := Nat.le_trans (cnt_suf (by rw [hz]; exact List.suffix_cons 122 r0)) hcnt
    have tail : ∀ (o2 : Option V) (ve : V) (e : Lad) (q : List Nat) (H1 : Hp), Same H H1 → LV K H1 ve e → pExp (pLad 60 D) r0 = some (e, q) → q <:+ t →
        tSeq (tAsg (tC (.int 1)) (gName 4)) (tSeq (tIfS (tTest (tOp rEq (tSl rSlS (tVar 0) (tPart (tVar 1)) (tPart (tOp (rI0 fun i j => .int (i + j)) (tVar 1) (tC (.int 1))))) (tC (.str "*"))))
          (tSeq (tAsg (tCall spLNum [] E0 (tCons (tVar 0) (tCons (tOp (rI0 fun i j => .int (i + j)) (tVar 1) (tC (.int 1))) tNil))) (gName 2))
            (tSeq (tIfS (tTest (tOp (fun x y H Q => y = .non ∧ Q (.bl (decide (x = .non))) H) (tVar 2) (tC .non))) (tRet (tC .non)) tNext) (tAsg (tVar 2) (gTup K 2 (gCons (gName 4) (gCons (gName 1) gNil)))))) tNext)
          (tRet (tTup (tCons (tTup (tCons (tVar 3) (tCons (tVar 4) tNil))) (tCons (tVar 1) tNil)))))
          { nx := fun _ H' => Q .non H', rt := Q } [some (T t), some (.int ((t.length - q.length : Nat))), o2, some ve, none] H1 := by
      intro o2 ve e q H1 S1 lv1 hx hqt
      have hdq := suf_drop hqt
      have hlq := hqt.length_le
      have fin : ∀ (o2 : Option V) (m : Int) (r : List Nat) (H2 : Hp), Same H1 H2 → pMany 60 q = some (m, r) → tRet (tTup (tCons (tTup (tCons (tVar 3) (tCons (tVar 4) tNil))) (tCons (tVar 1) tNil))) { nx := fun _ H' => Q .non H', rt := Q } [some (T t), some (.int ((t.length - r.length : Nat))), o2, some ve, some (.int m)] H2 := by
        intro o2 m r H2 S2 hm
        refine ⟨_, rfl, _, rfl, by show 2 ≤ sizeLine; omega, fun p1 hp => ⟨_, rfl, by show 2 ≤ sizeLine; omega, fun p2 hp2 => ?_⟩⟩
        refine qS e m r (by rw [hz]; exact pPair_yes hx hm) p2 (.ref p1) _ ((S1.trans S2).trans ((same_new hp _).trans (same_new hp2 _))) (by rw [upd_same]) ?_
        refine PV.gr (gr_new hp2 _) (PV.mk' (SqT.of upd_same) (LV.gr ((Same.gr S2).trans (gr_new hp _)) lv1))
      refine ⟨_, rfl, _, rfl, _, rfl, _, rfl, _, _, rfl, rfl, _, rfl, S t, rfl, by rw [S_len]; omega, rfl, _, rfl, ?_⟩
      rw [cut_one t (t.length - q.length) _ _ rfl (by omega), lit_star, hdq]
      by_cases hs : ∃ r, q = 42 :: r
      · rw [sign_yes hs]
        obtain ⟨r1, rfl⟩ := hs
        simp only [List.length_cons] at hlq hdq
        obtain ⟨hd3, hd4⟩ := drop_cons hdq
        refine iteT ⟨_, rfl, _, rfl, _, _, rfl, rfl, t, t.length - (r1.length + 1) + 1, ?_, hl, hd4, fun hn H2 S2 => ?_, fun m r hm p2 H2 S2 hp2 => ?_⟩
        · simp only [List.length_cons]
          rfl
        · rw [hd3] at hn
          exact ⟨_, rfl, rfl, _, rfl, iteT (qN (by rw [hz]; exact pPair_no2 hx hn) H2 (S1.trans S2))⟩
        · rw [hd3] at hm
          refine ⟨_, rfl, rfl, _, rfl, iteF ⟨_, rfl, p2, _, rfl, SqT.of hp2, rfl, _, _, rfl, _, _, rfl, rfl, ?_⟩⟩
          exact fin _ m r H2 S2 hm
      · rw [sign_no hs]
        exact iteF (fin o2 1 q H1 (Same.refl _) (pMany_else hs))
    refine ⟨by show 0 ≤ sizeLine; omega, fun q0 h0 => ⟨by show 2 ≤ sizeLine; omega, fun q1 h1 => ⟨by show 1 ≤ sizeLine; omega, fun q2 h2 => ?_⟩⟩⟩
    have S3 := (same_new h0 (.tup [])).trans ((same_new h1 (.tup [.ref q0, .int 1])).trans (same_new h2 (.tup [.ref q1])))
    have lvo : LV K (upd (upd (upd H q0 (.tup [])) q1 (.tup [.ref q0, .int 1])) q2 (.tup [.ref q1])) (.ref q2) one :=
      ⟨q2, _, rfl, SqT.of upd_same, LVs.cons (PV.gr (gr_new h2 _) (PV.mk' (SqT.of upd_same) (LV.gr (gr_new h1 _) (LV.nil (SqT.of upd_same))))) rfl⟩
    have ea : (a : Int) + 1 = ((t.length - r0.length : Nat) : Int) := by omega
    refine ⟨_, rfl, _, _, rfl, rfl, ?_⟩
    refine ⟨_, rfl, _, rfl, _, rfl, _, rfl, _, _, rfl, rfl, _, rfl, S t, rfl, by rw [S_len]; omega, rfl, _, rfl, ?_⟩
    rw [cut_one t (a + 1) ((a : Int) + 1) ((a : Int) + 1 + 1) (by omega) (by omega), lit_b, hd1]
    by_cases hb : ∃ r, r0 = 91 :: r
    · rw [sign_yes hb]
      obtain ⟨r1, rfl⟩ := hb
      obtain ⟨hd3, hd4⟩ := drop_cons hd1
      have cr1 : cnt r1 < D := by
        have : cnt (91 :: r1) = cnt r1 + 1 := by
          show List.count 91 (91 :: r1) = List.count 91 r1 + 1
          rw [List.count_cons_self]
        omega
      refine iteT ⟨_, rfl, _, rfl, _, _, rfl, rfl, t, a + 1 + 1, rfl, hl, hd4, by rw [hd3]; exact cr1, fun hn H1 S1 => ?_, fun l r hp p vl H1 S1 hp1 lv1 => ?_⟩
      · rw [hd3] at hn
        exact ⟨_, rfl, rfl, _, rfl, iteT (iteT (qN (by rw [hz]; exact pPair_no1 (pExp_none hn)) H1 (S3.trans S1)))⟩
      · rw [hd3] at hp
        have hsuf := lad_suf 60 D _ _ _ hp
        have hrt : r <:+ t := hsuf.trans ((List.suffix_cons 91 r1).trans hr0t)
        have hdr := suf_drop hrt
        have hlr := hrt.length_le
        refine ⟨_, rfl, rfl, _, rfl, iteF ⟨_, rfl, _, rfl, p, _, 1, _, rfl, rfl, SqT.of hp1, rfl, _, rfl, _, rfl, p, _, 1, _, rfl, rfl, SqT.of hp1, rfl, _, _, rfl, rfl, _, rfl, S t, rfl, by rw [S_len]; omega, rfl, _, rfl, ?_⟩⟩
        rw [cut_one t (t.length - r.length) _ _ rfl (by omega), lit_c, hdr]
        by_cases hc : ∃ q, r = 93 :: q
        · rw [sign_yes hc]
          obtain ⟨q, rfl⟩ := hc
          refine iteF ⟨_, rfl, p, _, 0, _, rfl, rfl, SqT.of hp1, rfl, _, rfl, p, _, 1, _, rfl, rfl, SqT.of hp1, rfl, _, _, rfl, rfl, _, _, rfl, ?_⟩
          have e1 : ((t.length - (93 :: q).length : Nat) : Int) + 1 = ((t.length - q.length : Nat) : Int) := by
            simp only [List.length_cons] at hlr ⊢
            omega
          have := tail (some (.ref p)) vl l q H1 (S3.trans S1) lv1 (pExp_close hp) ((List.suffix_cons 93 q).trans hrt)
          rw [← e1] at this
          exact this
        · rw [sign_no hc]
          refine iteT (qN ?_ H1 (S3.trans S1))
          rw [hz]
          exact pPair_no1 (pExp_open hp hc)
    · rw [sign_no hb]
      refine iteF ?_
      have := tail none (.ref q2) one r0 _ S3 lvo (pExp_else hb) hr0t
      rw [← ea] at this
      exact this
  · rw [sign_no hz]
    refine iteT ⟨_, rfl, _, rfl, t, a, rfl, hl, ha, fun hn H1 S1 => ?_, fun m r hm p H1 S1 hp1 => ?_⟩
    · refine ⟨_, rfl, rfl, _, rfl, iteT (qN (pPair_n0 hz hn) H1 S1)⟩
    · refine ⟨_, rfl, rfl, _, rfl, iteF ?_⟩
      refine ⟨by show 0 ≤ sizeLine; omega, fun p0 hp0 => ⟨_, rfl, p, _, 0, _, rfl, rfl, SqT.of (same_new hp0 _ _ _ hp1), rfl, by show 2 ≤ sizeLine; omega, fun p2 hp2 => ⟨_, rfl, p, _, 1, _, rfl, rfl, SqT.of ((same_new hp0 _).trans (same_new hp2 _) _ _ hp1), rfl, by show 2 ≤ sizeLine; omega, fun p3 hp3 => ?_⟩⟩⟩
      refine qS .nil m r (pPair_n1 hz hm) p3 (.ref p2) _ (S1.trans ((same_new hp0 _).trans ((same_new hp2 _).trans (same_new hp3 _)))) (by rw [upd_same]) ?_
      exact PV.gr (gr_new hp3 _) (PV.mk' (SqT.of upd_same) (LV.gr (gr_new hp2 _) (LV.nil (SqT.of upd_same))))
end
end K11
/-! Qk -/
namespace K11
open PySem L2 Lad
abbrev sLPairs : Stmt := topS 57
theorem scLPairs : FnScope ["_law_text", "_law_at_here", "_law_found", "_law_told"] ["_law_text", "_law_at_here"] (defScope sLPairs) := ⟨rfl, rfl, rfl, by decide +kernel, rfl, by decide +kernel, by decide +kernel⟩
section
variable {P : Program} {w : World} {K : PySem.W.Frag} {mg : Str → Option Value} {base : Heap} {f g h : Addr} {fd gd' hd' : FuncData}
theorem ok_lPairs {D : Nat} (F : Fun K "_law_pairs_at" "_law_pairs_at" sLPairs f fd)
    (G : FnOk P w K mg base CX0 (2 * D + 2) g gd' ["_law_text", "_law_at_here"] (spLPair K D)) (bG : Binds K gd' ["_law_text", "_law_at_here"] []) (kG : PySem.W.keepIn K (.ref g) = true) (mG : mg "_law_pair_at" = some (.ref g)) (mT : mg "tuple" = none) :
    FnOk P w K mg base CX0 (2 * (D + 1) + 1) f fd ["_law_text", "_law_at_here"] (spLPairs K (D + 1)) := by
  refine F.ok scLPairs (fun vs H Q E h => ?_) (fun cdv A outer s H vs Q E hr h => ?_)
  · obtain ⟨t, a, rfl, _⟩ := h
    rfl
  obtain ⟨t, a, rfl, hl, ha, hcnt, qN, qS⟩ := h
  have hrG : Room (2 * D + 2) _ := hr.mono (by omega)
  refine ⟨_, pss_cons (ps_set (i := 2) scLPairs.nd rfl (.inl rfl) (pe_lst pa_nil))
    (pss_one (ps_while PassesOwn.never (pt_val pe_bl) (pss_cons (ps_set (i := 3) scLPairs.nd rfl (.inl rfl) (pe_call G hrG (by rfl) mG kG bG .nil pass0 (pa_cons (pv 0) (pa_cons (pv 1) pa_nil))))
    (pss_cons (ps_if (pt_cmpR op_isN (pv 3) pe_non (nomark _)) (pss_one (ps_ret pe_non)) pss_nil)
    (pss_cons (ps_expr (pe_bm PySem.F.plainAttrs_list PySem.F.slot_list_append PySem.F.type_list_append mt_append (pv 2) (pa_cons (pe_ix ix_tup (pv 3) pe_int (fun _ _ => rfl)) pa_nil)))
    (pss_cons (ps_set (i := 1) scLPairs.nd rfl (.inl rfl) (pe_ix ix_tup (pv 3) pe_int (fun _ _ => rfl)))
    (pss_cons (ps_if (pt_cmpR op_ne (pe_slice sl_str (pv 0) (po_some (pv 1)) (po_some (pe_op op_add (pv 1) pe_int))) pe_str (nomark _)) (pss_one (ps_ret (pe_tup (pa_cons (pe_callTy call_tuple_of (by rfl) mT (by decide +kernel) (pa_cons (pv 2) pa_nil)) (pa_cons (pv 1) pa_nil))))) pss_nil)
    (pss_one (ps_set (i := 1) scLPairs.nd rfl (.inl rfl) (pe_op op_add (pv 1) pe_int)))))))))), ?_⟩
  have big := big16
  have Fi := lad_fine (w := 60) (by decide) D
  rw [lad_PL] at qN
  have qS' : ∀ l r, PL 60 (pLad 60 D) (t.drop a) = some (l, r) → ∀ p vl H', Same H H' → H' p = some (.tup [vl, .int ((t.length - r.length : Nat))]) → LV K H' vl l → Q (.ref p) H' := qS
  refine ⟨by show 0 ≤ sizeLine; omega, fun fa hfa => ?_⟩
  have S0 : Same H (upd H fa (.lst [])) := same_new hfa _
  refine ⟨fun k σ H2 => ∃ (o3 : Option V) (q : List Nat) (l0 : Lad) (xs : List V), σ = [some (T t), some (.int ((t.length - q.length : Nat))), some (.ref fa), o3] ∧ q <:+ t.drop a ∧ k = q.length ∧ Same H H2 ∧ H2 fa = some (.lst xs) ∧ LVs K H2 xs l0 ∧ xs.length + q.length ≤ t.length ∧ PL 60 (pLad 60 D) (t.drop a) = PQ 60 (pLad 60 D) l0 q,
    ⟨_, none, t.drop a, .nil, [], ?_, List.suffix_refl _, rfl, S0, upd_same, rfl, by rw [List.length_drop]; show 0 + _ ≤ _; omega, PQ_start _ _ _⟩, ?_⟩
  · rw [List.length_drop, show t.length - (t.length - a) = a by omega]
    rfl
  rintro k σ H2 ⟨o3, q, l0, xs, rfl, hq, rfl, S2, hfa2, hxs, hlen, eR⟩
  have hqt : q <:+ t := suf_of_drop hq
  have hdq := suf_drop hqt
  have hlq := hqt.length_le
  have cq : cnt q ≤ D := Nat.le_of_lt_succ (Nat.lt_of_le_of_lt (cnt_suf hq) hcnt)
  refine ⟨_, rfl, iteT ⟨fun σ' H' => ∃ (o3 : Option V) (q' : List Nat) (l0 : Lad) (xs : List V), σ' = [some (T t), some (.int ((t.length - q'.length : Nat))), some (.ref fa), o3] ∧ q' <:+ t.drop a ∧ q'.length < q.length ∧ Same H H' ∧ H' fa = some (.lst xs) ∧ LVs K H' xs l0 ∧ xs.length + q'.length ≤ t.length ∧ PL 60 (pLad 60 D) (t.drop a) = PQ 60 (pLad 60 D) l0 q', ?_, ?_⟩⟩
  · rintro σ' H' ⟨o3, q', l0, xs, h1, h2, h3, h4, h5, h6, h7, h8⟩
    exact ⟨_, h3, o3, q', l0, xs, h1, h2, rfl, h4, h5, h6, h7, h8⟩
  refine ⟨_, rfl, _, rfl, t, t.length - q.length, rfl, hl, by omega, by rw [hdq]; exact cq, fun hn H3 S3 => ?_, fun e m r hp p vp H3 S3 hp3 pv3 => ?_⟩
  · rw [hdq] at hn
    refine ⟨_, rfl, rfl, _, rfl, iteT (qN ?_ H3 (S2.trans S3))⟩
    rw [eR]
    exact PQ_no hn
  · rw [hdq] at hp
    have hfin := pPair_fine (by decide) Fi hp
    have hrq : r <:+ t.drop a := (pPair_suf (lad_suf 60 D) hp).trans hq
    have hrt : r <:+ t := suf_of_drop hrq
    have hdr := suf_drop hrt
    have hlr := hrt.length_le
    have hfa3 := S3 _ _ hfa2
    have hfp : p ≠ fa := fun z => by
      rw [z, hfa3] at hp3
      cases hp3
    have hp4 : upd H3 fa (.lst (xs ++ [vp])) p = some (.tup [vp, .int ((t.length - r.length : Nat))]) := by rw [upd_ne hfp]; exact hp3
    have g3 : Gr H3 (upd H3 fa (.lst (xs ++ [vp]))) := gr_lst hfa3 _
    have hfH : H fa = none := hfa
    have S4 : Same H (upd H3 fa (.lst (xs ++ [vp]))) := Same.upd_at hfH (S2.trans S3) _
    have lv4 : LVs K (upd H3 fa (.lst (xs ++ [vp]))) (xs ++ [vp]) (app l0 (.cons e m .nil)) := LVs.app (LVs.gr ((Same.gr S3).trans g3) hxs) (LVs.cons (PV.gr g3 pv3) rfl)
    have f4 : upd H3 fa (.lst (xs ++ [vp])) fa = some (.lst (xs ++ [vp])) := upd_same
    have hl4 : (xs ++ [vp]).length + r.length ≤ t.length := by
      rw [List.length_append]
      have := hfin.2.2
      simp only [List.length_cons, List.length_nil]
      omega
    refine ⟨_, rfl, rfl, _, rfl, iteF ⟨_, rfl, .inl ⟨rfl, _, SqL.of hfa3⟩, _, rfl, p, _, 0, _, rfl, rfl, SqT.of hp3, rfl, fa, xs, vp, rfl, rfl, hfa3, by omega, _, rfl, p, _, 1, _, rfl, rfl, SqT.of hp4, rfl, ?_⟩⟩
    refine ⟨_, rfl, _, rfl, _, rfl, _, rfl, _, _, rfl, rfl, _, rfl, S t, rfl, by rw [S_len]; omega, rfl, _, rfl, ?_⟩
    rw [cut_one t (t.length - r.length) _ _ rfl (by omega), lit_plus, hdr]
    by_cases hs : ∃ r1, r = 43 :: r1
    · rw [sign_yes hs]
      obtain ⟨r1, rfl⟩ := hs
      have e1 : ((t.length - (43 :: r1).length : Nat) : Int) + 1 = ((t.length - r1.length : Nat) : Int) := by
        simp only [List.length_cons] at hlr ⊢
        omega
      refine iteF ⟨_, rfl, _, _, rfl, rfl, some (.ref p), r1, _, _, ?_, (List.suffix_cons 43 r1).trans hrq, ?_, S4, f4, lv4, ?_, by rw [eR]; exact PQ_step (by decide) Fi hp⟩
      · rw [← e1]
        rfl
      · have := hfin.2.2
        simp only [List.length_cons] at this
        omega
      · simp only [List.length_cons] at hl4 ⊢
        omega
    · rw [sign_no hs]
      refine iteT ⟨_, rfl, fa, _, rfl, .inl ⟨SqL.of f4, fun p1 hp1 => ⟨_, rfl, by show 2 ≤ sizeLine; omega, fun p2 hp2 => ?_⟩⟩⟩
      refine qS' _ r (by rw [eR]; exact PQ_end hp hs) p2 (.ref p1) _ (S4.trans ((same_new hp1 _).trans (same_new hp2 _))) (by rw [upd_same]) ?_
      exact LV.gr (gr_new hp2 _) ⟨p1, _, rfl, SqT.of upd_same, LVs.gr (gr_new hp1 _) lv4⟩
theorem lPairs_none {k : Nat} : FnOk P w K mg base CX0 k f fd ["_law_text", "_law_at_here"] (spLPairs K 0) := by
  have no : ∀ vs H Q E, ¬ spLPairs K 0 vs H Q E := fun vs H Q E h => by
    obtain ⟨t, a, _, _, _, h0, _⟩ := h
    exact absurd h0 (Nat.not_lt_zero _)
  exact ⟨fun vs H Q E h => absurd h (no vs H Q E), fun A outer s H args us vs Q E _ _ _ _ h => absurd h (no vs H Q E)⟩
theorem lPairs_all (F : Fun K "_law_pairs_at" "_law_pairs_at" sLPairs f fd) (bF : Binds K fd ["_law_text", "_law_at_here"] []) (mF : mg "_law_pairs_at" = some (.ref f))
    (FP : Fun K "_law_pair_at" "_law_pair_at" sLPair g gd') (bP : Binds K gd' ["_law_text", "_law_at_here"] []) (mP : mg "_law_pair_at" = some (.ref g))
    (GN : FnOk P w K mg base CX0 1 h hd' ["_law_text", "_law_at_here"] spLNum) (bN : Binds K hd' ["_law_text", "_law_at_here"] []) (kN : PySem.W.keepIn K (.ref h) = true) (mN : mg "_law_number_at" = some (.ref h)) (mT : mg "tuple" = none) :
    ∀ D : Nat, FnOk P w K mg base CX0 (2 * D + 1) f fd ["_law_text", "_law_at_here"] (spLPairs K D)
  | 0 => lPairs_none
  | D + 1 => ok_lPairs F (ok_lPair FP (lPairs_all F bF mF FP bP mP GN bN kN mN mT D) bF F.kp mF GN bN kN mN) bP FP.kp mP mT
end
end K11
/-! Ql -/
namespace K11
open PySem L2 Lad
abbrev sDue : Stmt := topS 58
theorem scDue : FnScope ["_law_text", "_law_told", "_law_counted"] ["_law_text"] (defScope sDue) := ⟨rfl, rfl, rfl, by decide +kernel, rfl, by decide +kernel, by decide +kernel⟩
/-- _law_due -/
def spDue (K : PySem.W.Frag) : Sp := fun vs H Q _ => ∃ t : List Nat, vs = [T t] ∧ t.length ≤ 40000 ∧ cnt t ≤ 40 ∧
  (rd t = none → ∀ H', Same H H' → Q .non H') ∧ ∀ l, rd t = some l → ∀ v H', Same H H' → LV K H' v l → Q v H'
section
variable {P : Program} {w : World} {K : PySem.W.Frag} {mg : Str → Option Value} {base : Heap} {f gP gI gS gZ : Addr} {fd dP dI dS dZ : FuncData}
theorem ok_due (F : Fun K "_law_due" "_law_due" sDue f fd)
    (GP : FnOk P w K mg base CX0 (2 * 41 + 1) gP dP ["_law_text", "_law_at_here"] (spLPairs K 41)) (bP : Binds K dP ["_law_text", "_law_at_here"] []) (kP : PySem.W.keepIn K (.ref gP) = true) (mP : mg "_law_pairs_at" = some (.ref gP))
    (GI : FnOk P w K mg base CX0 50 gI dI ["_law_thing"] (spIsLad K 50)) (bI : Binds K dI ["_law_thing"] []) (kI : PySem.W.keepIn K (.ref gI) = true) (mI : mg "_law_is_ladder" = some (.ref gI))
    (GS : FnOk P w K mg base CX0 50 gS dS ["_law_ladder_here"] (spShow K 50)) (bS : Binds K dS ["_law_ladder_here"] []) (kS : PySem.W.keepIn K (.ref gS) = true) (mS : mg "_law_shown" = some (.ref gS))
    (GZ : FnOk P w K mg base CX0 50 gZ dZ ["_law_ladder_here"] (spLSize K 50)) (bZ : Binds K dZ ["_law_ladder_here"] []) (kZ : PySem.W.keepIn K (.ref gZ) = true) (mZ : mg "_law_size" = some (.ref gZ))
    (ml : mg "len" = none) : FnOk P w K mg base CX0 84 f fd ["_law_text"] (spDue K) := by
  refine F.ok scDue (fun vs H Q E h => ?_) (fun cdv A outer s H vs Q E hr h => ?_)
  · obtain ⟨t, rfl, _⟩ := h
    rfl
  obtain ⟨t, rfl, hl, hcnt, qN, qS⟩ := h
  have hrP : Room (2 * 41 + 1) _ := hr.mono (by decide)
  have hrI : Room 50 _ := hr.mono (by decide)
  rw [← due_rd (d := 41) (by decide)] at qN
  rw [← due_rd (d := 41) (by decide)] at qS
  refine ⟨_, pss_cons (ps_if (pt_cmpR op_eq (pv 0) pe_str (nomark _)) (pss_one (ps_ret (pe_tup pa_nil))) pss_nil)
    (pss_cons (ps_set (i := 1) scDue.nd rfl (.inl rfl) (pe_call GP hrP (by rfl) mP kP bP .nil pass0 (pa_cons (pv 0) (pa_cons pe_int pa_nil))))
    (pss_cons (ps_if (PW.pt (pw_or (pt_cmpR op_isN (pv 1) pe_non (nomark _)) (pw_or (pt_cmpR op_ne (pe_ix ix_tup (pv 1) pe_int (fun _ _ => rfl)) (pe_callB call_len_str rfl ml PySem.boot_len (pa_cons (pv 0) pa_nil)) (nomark _)) (pw_or (pt_not (pt_val (pe_call GI hrI (by rfl) mI kI bI .nil pass0 (pa_cons (pe_ix ix_tup (pv 1) pe_int (fun _ _ => rfl)) pa_nil)))) (pw_or1 (pt_cmpR op_ne (pe_call GS hrI (by rfl) mS kS bS .nil pass0 (pa_cons (pe_ix ix_tup (pv 1) pe_int (fun _ _ => rfl)) pa_nil)) (pv 0) (nomark _))))))) (pss_one (ps_ret pe_non)) pss_nil)
    (pss_cons (ps_set (i := 2) scDue.nd rfl (.inl rfl) (pe_call GZ hrI (by rfl) mZ kZ bZ .nil pass0 (pa_cons (pe_ix ix_tup (pv 1) pe_int (fun _ _ => rfl)) pa_nil)))
    (pss_one (ps_ret (pe_ifExp (PW.pt (pw_or (pt_cmpR op_gt (pe_ix ix_list (pv 2) pe_int (fun _ _ => rfl)) pe_int (nomark _)) (pw_or1 (pt_cmpR op_gt (pe_ix ix_list (pv 2) pe_int (fun _ _ => rfl)) pe_int (nomark _))))) pe_non (pe_ix ix_tup (pv 1) pe_int (fun _ _ => rfl)))))))), ?_⟩
  have big := big16
  refine ⟨_, rfl, rfl, _, rfl, ?_⟩
  rw [lit_0, S_dec]
  by_cases h0 : t = [48]
  · rw [decide_eq_true h0]
    refine iteT ⟨by show 0 ≤ sizeLine; omega, fun p hp => ?_⟩
    exact qS .nil (by rw [h0]; rfl) _ _ (same_new hp _) (LV.nil (SqT.of upd_same))
  · rw [decide_eq_false h0]
    refine iteF ⟨_, rfl, t, 0, rfl, by omega, Nat.zero_le _, Nat.lt_succ_of_le hcnt, fun hn H1 S1 => ⟨_, rfl, rfl, _, rfl, iteT (iteT (qN (due_no h0 hn) H1 S1))⟩, fun l r hp p vl H1 S1 hp1 lv1 => ?_⟩
    rw [List.drop_zero] at hp
    have hf := (lad_fine (w := 60) (by decide) 41).p _ _ _ hp
    have hg0 := (lad_fine (w := 60) (by decide) 41).g _ _ _ hp
    have hdp := lad_deep 41 _ _ _ hp
    refine ⟨_, rfl, rfl, _, rfl, iteF ⟨_, rfl, p, _, 1, _, rfl, rfl, SqT.of hp1, rfl, _, rfl, S t, rfl, by rw [S_len]; omega, rfl, _, rfl, ?_⟩⟩
    rw [S_len]
    by_cases hr0 : r = []
    · subst hr0
      rw [decide_eq_true (show V.int ((t.length - ([] : List Nat).length : Nat) : Int) = V.int (t.length : Int) by rfl)]
      refine iteF ⟨_, rfl, p, _, 0, _, rfl, rfl, SqT.of hp1, rfl, vl, l, rfl, lv1, by omega, by decide, by omega, fun H2 S2 => ⟨_, rfl, ?_⟩⟩
      have hp2 := S2 _ _ hp1
      cases ho : l.ok with
      | false => exact iteT (iteT (qN (due_bad h0 hp (good_no1 ho)) H2 (S1.trans S2)))
      | true =>
        have gd60 := gd_of hg0 (g1_ok ho)
        refine iteF ⟨_, rfl, p, _, 0, _, rfl, rfl, SqT.of hp2, rfl, vl, l, rfl, LV.gr (Same.gr S2) lv1, by omega, by decide, gd_mono (by decide) l gd60, by omega, fun H3 S3 => ⟨_, rfl, rfl, _, rfl, ?_⟩⟩
        have hp3 := S3 _ _ hp2
        rw [S_dec]
        by_cases hs : sh l = t
        · rw [decide_eq_true hs]
          refine iteF ⟨_, rfl, p, _, 0, _, rfl, rfl, SqT.of hp3, rfl, vl, l, rfl, LV.gr (Same.gr (S2.trans S3)) lv1, by omega, fun z H4 S4 hz => ⟨_, rfl, z, _, 0, _, rfl, rfl, SqL.of hz, rfl, _, _, rfl, rfl, _, rfl, ?_⟩⟩
          have hp4 := S4 _ _ hp3
          have SS := ((S1.trans S2).trans S3).trans S4
          by_cases hP : l.parts ≤ 60
          · rw [decide_eq_false (show ¬ (60 : Int) < (l.parts : Nat) by omega)]
            refine iteF ⟨_, rfl, z, _, 1, _, rfl, rfl, SqL.of hz, rfl, _, _, rfl, rfl, _, rfl, ?_⟩
            by_cases hD : l.deep ≤ 12
            · rw [decide_eq_false (show ¬ (12 : Int) < (l.deep : Nat) by omega)]
              refine iteF ⟨_, rfl, p, _, 0, _, rfl, rfl, SqT.of hp4, rfl, ?_⟩
              exact qS l (due_good h0 hp (good_yes ho hs hP hD)) vl H4 SS (LV.gr (Same.gr ((S2.trans S3).trans S4)) lv1)
            · rw [decide_eq_true (show (12 : Int) < (l.deep : Nat) by omega)]
              exact iteT (qN (due_bad h0 hp (good_no4 hD)) H4 SS)
          · rw [decide_eq_true (show (60 : Int) < (l.parts : Nat) by omega)]
            exact iteT (iteT (qN (due_bad h0 hp (good_no3 hP)) H4 SS))
        · rw [decide_eq_false hs]
          exact iteT (qN (due_bad h0 hp (good_no2 hs)) H3 ((S1.trans S2).trans S3))
    · have hlr : 0 < r.length := List.length_pos_iff.mpr hr0
      have hle : r.length ≤ t.length := (lad_suf 60 41 _ _ _ hp).length_le
      rw [decide_eq_false (show ¬ V.int ((t.length - r.length : Nat) : Int) = V.int (t.length : Int) from fun z => by have := V.int.inj z; omega)]
      exact iteT (iteT (qN (due_rest h0 hp hr0) H1 S1))
end
end K11
/-! Qm -/
namespace K11
open PySem L2 Lad
abbrev sROrN : Stmt := topS 59
abbrev sTB : Stmt := topS 60
abbrev sNever : Stmt := topS 61
theorem scROrN : FnScope ["_law_text", "_law_due_here"] ["_law_text"] (defScope sROrN) := ⟨rfl, rfl, rfl, by decide +kernel, rfl, by decide +kernel, by decide +kernel⟩
theorem scTB : FnScope ["_law_text", "_law_ladder_here", "_law_told"] ["_law_text", "_law_ladder_here"] (defScope sTB) := ⟨rfl, rfl, rfl, by decide +kernel, rfl, by decide +kernel, by decide +kernel⟩
theorem scNever : FnScope ["_law_some", "_law_text"] [] (defScope sNever) := ⟨rfl, rfl, rfl, by decide +kernel, rfl, by decide +kernel, by decide +kernel⟩
def spROrN : Sp := fun vs H Q _ => ∃ t : List Nat, vs = [T t] ∧ t.length ≤ 40000 ∧ cnt t ≤ 40 ∧ ∀ H', Same H H' → Q (.bl true) H'
def spTB (K : PySem.W.Frag) : Sp := fun vs H Q _ => ∃ (v : V) (l : Lad), vs = [T (sh l), v] ∧ LV K H v l ∧ l.ok = true ∧ gd 60 l ∧ l.parts ≤ 60 ∧ l.deep ≤ 12 ∧ ∀ H', Same H H' → Q (.bl true) H'
def spNever : Sp := fun vs H Q _ => vs = [] ∧ ∀ H', Same H H' → Q (.bl true) H'
theorem sh_len60 {l : Lad} (g : gd 61 l) (hp : l.parts ≤ 100) : (sh l).length ≤ 6600 := by
  unfold sh
  split
  · simp
  · have := len_sh (w := 61) (by decide) l g
    omega
/-- a comprehension over a list whose elements leave all as it is -/
theorem lc_listS {K : PySem.W.Frag} {a : Addr} {xs : List V} {g : TG} {te : TE} {vs : List Nat} {σ : L2.St} {H : Hp} {D : Addr} {Qd : Hp → Prop} (hD : H D = none) (ha : H a = some (.lst xs)) (hz : xs.length ≤ 1000000) (ys : List V) (hy : ys.length = xs.length)
    (hs : ∀ (i : Nat) (x y : V) (H' : Hp) (C : VK), xs[i]? = some x → ys[i]? = some y → Same H H' → (∀ H3, Same H' H3 → C y H3) → g x (wipe σ vs) H' fun σ2 H2 => wipe σ2 vs = wipe σ vs ∧ te σ2 H2 C)
    (hd : ∀ H', Same H H' → H' D = some (.lst ys) → Qd H') :
    ∃ W : Nat → Nat → Hp → Prop, (∃ m, W 0 m (upd H D (.lst []))) ∧ ∀ i m H, W i m H →
      ((Itl K a).stop i H ∧ Qd H) ∨ ((Itl K a).go i H ∧ ∃ Nx : Hp → Prop, (∀ H', Nx H' → ∃ m', m' < m ∧ W (i + 1) m' H') ∧ ∀ x H', (Itl K a).yld i H x H' → g x (wipe σ vs) H' fun σ2 H2 => wipe σ2 vs = wipe σ vs ∧ tYes σ2 H2 fun b H3 =>
        if b = true then te σ2 H3 fun y H4 => ∃ acc, H4 D = some (.lst acc) ∧ acc.length < sizeLine ∧ Nx (upd H4 D (.lst (acc ++ [y]))) else Nx H3) := by
  have big : (1000000 : Nat) < sizeLine := by decide
  refine lc_list (xs := xs) (fun i H1 => i ≤ xs.length ∧ Same H H1 ∧ H1 D = some (.lst (ys.take i))) ⟨Nat.zero_le _, same_new hD _, upd_same⟩ (fun i H1 _ p => SqL.of (p.2.1 _ _ ha)) (fun i x H1 hx p => ?_) (fun H1 p => hd H1 p.2.1 (by rw [p.2.2, List.take_of_length_le (by omega)]))
  obtain ⟨hi, S, e⟩ := p
  have hlt : i < xs.length := (List.getElem?_eq_some_iff.mp hx).1
  have hy' : ys[i]? = some ys[i] := List.getElem?_eq_getElem (by omega)
  refine hs i x _ _ _ hx hy' S fun H3 S3 => ?_
  refine ⟨ys.take i, S3 _ _ e, by rw [List.length_take]; omega, hlt, Same.upd_at hD (S.trans S3) _, ?_⟩
  rw [upd_same, take_snoc hy']
theorem lit_of (s : String) : (Str.ofString s) = S (s.toList.map Char.toNat) := Str.ofString_eq_toList s
theorem never_len : ∀ s ∈ never, (s.toList.map Char.toNat).length ≤ 40000 := by decide +kernel
theorem kit_str_str {K : PySem.W.Frag} : PySem.W.kitOne K (.type "str") (.type "str") = some true := kit_ty (by decide +kernel)
section
variable {P : Program} {w : World} {K : PySem.W.Frag} {mg : Str → Option Value} {base : Heap} {f gD gR gA gX gS : Addr} {fd dD dR dA dX dS : FuncData} {C : Addr}
theorem ok_rOrN (F : Fun K "_law_read_or_not" "_law_read_or_not" sROrN f fd)
    (GD : FnOk P w K mg base CX0 84 gD dD ["_law_text"] (spDue K)) (bD : Binds K dD ["_law_text"] []) (kD : PySem.W.keepIn K (.ref gD) = true) (mD : mg "_law_due" = some (.ref gD))
    (GR : FnOk P w K mg base CX0 39 gR dR ["_law_text"] spRef) (bR : Binds K dR ["_law_text"] []) (kR : PySem.W.keepIn K (.ref gR) = true) (mR : mg "_law_refused" = some (.ref gR))
    (GA : FnOk P w K mg base CX0 50 gA dA ["_law_found", "_law_due_here"] (spAlike K 50)) (bA : Binds K dA ["_law_found", "_law_due_here"] []) (kA : PySem.W.keepIn K (.ref gA) = true) (mA : mg "_law_alike" = some (.ref gA))
    (GX : FnOk P w K mg base (L2.CX P w) 38 gX dX ["text"] (spRead K C)) (bX : Binds K dX ["text"] []) (kX : PySem.W.keepIn K (.ref gX) = true) (mX : mg "read_ladder" = some (.ref gX)) :
    FnOk P w K mg base CX0 85 f fd ["_law_text"] spROrN := by
  refine F.ok scROrN (fun vs H Q E h => ?_) (fun cdv A outer s H vs Q E hr h => ?_)
  · obtain ⟨t, rfl, _⟩ := h
    rfl
  obtain ⟨t, rfl, hl, hcnt, q⟩ := h
  have hrD : Room 84 _ := hr.mono (by decide)
  have hrR : Room 39 _ := hr.mono (by decide)
  have hrA : Room 50 _ := hr.mono (by decide)
  have hrX : Room 38 _ := hr.mono (by decide)
  refine ⟨_, pss_cons (ps_set (i := 1) scROrN.nd rfl (.inl rfl) (pe_call GD hrD (by rfl) mD kD bD .nil pass0 (pa_cons (pv 0) pa_nil)))
    (pss_cons (ps_if (pt_cmpR op_isN (pv 1) pe_non (nomark _)) (pss_one (ps_ret (pe_call GR hrR (by rfl) mR kR bR .nil pass0 (pa_cons (pv 0) pa_nil)))) pss_nil)
    (pss_one (ps_ret (pe_call GA hrA (by rfl) mA kA bA .nil pass0 (pa_cons (pe_call GX hrX (by rfl) mX kX bX .nil passL (pa_cons (pv 0) pa_nil)) (pa_cons (pv 1) pa_nil)))))), ?_⟩
  refine ⟨_, rfl, t, rfl, hl, hcnt, fun hn H1 S1 => ⟨_, rfl, rfl, _, rfl, iteT ⟨_, rfl, t, rfl, by omega, hn, fun H2 S2 => q _ (S1.trans S2)⟩⟩, fun l hs v H1 S1 lv => ?_⟩
  obtain ⟨_, _, hp, hd, _⟩ := rd_some hs
  obtain ⟨a, xs, rfl, rest⟩ := lv
  have lv : LV K H1 (.ref a) l := ⟨a, xs, rfl, rest⟩
  refine ⟨_, rfl, rfl, _, rfl, iteF ⟨_, rfl, t, rfl, by omega, fun hn => (by rw [hn] at hs; cases hs), fun l2 hs2 v2 H2 S2 lv2 => ?_⟩⟩
  have e : l2 = l := Option.some.inj (hs2.symm.trans hs)
  subst e
  refine ⟨_, rfl, v2, .ref a, rfl, LV.al lv2 (LV.gr (Same.gr S2) lv) (by omega) (by omega), fun H3 S3 => q _ ((S1.trans S2).trans S3)⟩
theorem ok_tb (F : Fun K "_law_there_and_back" "_law_there_and_back" sTB f fd)
    (GS : FnOk P w K mg base CX0 30 gS dS ["ladder"] (spShow K 15)) (bS : Binds K dS ["ladder"] []) (kS : PySem.W.keepIn K (.ref gS) = true) (mS : mg "show_ladder" = some (.ref gS))
    (GA : FnOk P w K mg base CX0 50 gA dA ["_law_found", "_law_due_here"] (spAlike K 50)) (bA : Binds K dA ["_law_found", "_law_due_here"] []) (kA : PySem.W.keepIn K (.ref gA) = true) (mA : mg "_law_alike" = some (.ref gA))
    (GX : FnOk P w K mg base (L2.CX P w) 38 gX dX ["text"] (spRead K C)) (bX : Binds K dX ["text"] []) (kX : PySem.W.keepIn K (.ref gX) = true) (mX : mg "read_ladder" = some (.ref gX))
    (mi : mg "isinstance" = none) (mst : mg "str" = none) :
    FnOk P w K mg base CX0 85 f fd ["_law_text", "_law_ladder_here"] (spTB K) := by
  refine F.ok scTB (fun vs H Q E h => ?_) (fun cdv A outer s H vs Q E hr h => ?_)
  · obtain ⟨v, l, rfl, _⟩ := h
    rfl
  obtain ⟨v, l, rfl, lv, ho, g60, hp, hd, q⟩ := h
  have hrS : Room 30 _ := hr.mono (by decide)
  have hrA : Room 50 _ := hr.mono (by decide)
  have hrX : Room 38 _ := hr.mono (by decide)
  have g61 := gd_mono (by decide : 60 ≤ 61) l g60
  have hlen := sh_len60 g61 (by omega)
  refine ⟨_, pss_cons (ps_set (i := 2) scTB.nd rfl (.inl rfl) (pe_call GS hrS (by rfl) mS kS bS .nil pass0 (pa_cons (pv 1) pa_nil)))
    (pss_one (ps_ret (pe_and (pe_callB call_isi (by rfl) mi (by decide +kernel) (pa_cons (pv 2) (pa_cons (pe_bltn (v := .ty "str") (by rfl) mst (by decide +kernel) rfl) pa_nil))) (pe_and (pe_cmpR op_eq (pv 2) (pv 0) (nomark _)) (pe_one (pe_call GA hrA (by rfl) mA kA bA .nil pass0 (pa_cons (pe_call GX hrX (by rfl) mX kX bX .nil passL (pa_cons (pv 0) pa_nil)) (pa_cons (pv 1) pa_nil)))))))), ?_⟩
  refine ⟨_, rfl, v, l, rfl, lv, by omega, by decide, g61, by omega, fun H1 S1 => ?_⟩
  refine ⟨_, rfl, _, _, _, _, true, rfl, .ty "str", .base (.str _), kit_str_str, true, rfl, iteT ⟨_, rfl, _, rfl, rfl, _, rfl, ?_⟩⟩
  rw [decide_eq_true (show T (sh l) = T (sh l) from rfl)]
  refine iteT ⟨_, rfl, _, rfl, by omega, fun hn => (by rw [rd_sh ho g60 hp hd] at hn; cases hn), fun l2 hs2 v2 H2 S2 lv2 => ?_⟩
  have e : l2 = l := Option.some.inj (hs2.symm.trans (rd_sh ho g60 hp hd))
  subst e
  exact ⟨_, rfl, v2, v, rfl, LV.al lv2 (LV.gr (Same.gr (S1.trans S2)) lv) (by omega) (by omega), fun H3 S3 => q _ ((S1.trans S2).trans S3)⟩
theorem ok_never (F : Fun K "_law_never" "_law_never" sNever f fd)
    (GR : FnOk P w K mg base CX0 39 gR dR ["_law_text"] spRef) (bR : Binds K dR ["_law_text"] []) (kR : PySem.W.keepIn K (.ref gR) = true) (mR : mg "_law_refused" = some (.ref gR))
    (ma : mg "all" = none) : FnOk P w K mg base CX0 85 f fd [] spNever := by
  refine F.ok scNever (fun vs H Q E h => ?_) (fun cdv A outer s H vs Q E hr h => ?_)
  · obtain ⟨rfl, _⟩ := h
    rfl
  obtain ⟨rfl, q⟩ := h
  have hrR : Room 39 _ := hr.mono (by decide)
  refine ⟨_, pss_cons (ps_set (i := 0) scNever.nd rfl (.inl rfl) (pe_lst (pa_cons pe_str (pa_cons pe_str (pa_cons pe_str (pa_cons pe_str (pa_cons pe_str (pa_cons pe_str (pa_cons pe_str (pa_cons pe_str (pa_cons pe_str (pa_cons pe_str (pa_cons pe_str (pa_cons pe_str (pa_cons pe_str (pa_cons pe_str (pa_cons pe_str (pa_nil))))))))))))))))))
    (pss_one (ps_ret (pe_callB (cr_all rfl) (by rfl) ma (by decide +kernel) (pa_cons (pe_lc (own := [("_law_text", 1)]) (g := gName 1) (tt := tYes) rfl scNever.nd (pi_list (pe_op op_cat (pv 0) (pe_lst (pa_cons pe_str (pa_cons pe_str (pa_cons pe_str (pa_cons pe_str (pa_cons pe_str (pa_cons pe_str (pa_cons pe_str (pa_cons pe_str (pa_nil)))))))))))) (blkOk_by (N := ["_law_some", "_law_text"]) (sc := defScope sNever) (by decide +kernel)) (fun _ _ _ _ _ => pg_name (i := 1) scNever.nd rfl (Or.inl rfl)) (fun _ _ _ _ _ => pts_nil) (fun _ _ _ _ _ => pe_call GR hrR rfl mR kR bR .nil pass0 (pa_cons (pv 1) pa_nil))) pa_nil)))), ?_⟩
  have big := big16
  refine ⟨by show 15 ≤ sizeLine; omega, fun z1 hz1 => ?_⟩
  refine ⟨_, rfl, by show 8 ≤ sizeLine; omega, fun z2 hz2 => ?_⟩
  have n21 : z2 ≠ z1 := fun e => by
    rw [e, upd_same] at hz2
    cases hz2
  refine ⟨_, _, _, _, rfl, rfl, (upd_ne n21.symm).trans upd_same, upd_same, by show 15 + 8 ≤ sizeLine; omega, fun z3 hz3 => ?_⟩
  refine ⟨z3, rfl, ⟨_, SqL.of upd_same⟩, fun D hD => ?_⟩
  refine lc_listS (xs := never.map fun s => V.str (Str.ofString s)) hD upd_same (by decide) ((List.replicate 23 true).map V.bl) rfl (fun i x y H' C hx hy S hC => ?_) (fun H2 S2 e2 => ?_)
  · rw [List.getElem?_map] at hx hy
    have ey : y = V.bl true := by
      cases e : (List.replicate 23 true)[i]? with
      | none =>
        rw [e] at hy
        cases hy
      | some b =>
        rw [e] at hy
        have : b = true := List.eq_of_mem_replicate (List.mem_of_getElem? e)
        rw [this] at hy
        exact (Option.some.inj hy).symm
    cases e : never[i]? with
    | none =>
      rw [e] at hx
      cases hx
    | some s =>
      rw [e] at hx
      have ex : x = T (s.toList.map Char.toNat) := (Option.some.inj hx).symm.trans (congrArg V.str (lit_of s))
      have ms := List.mem_of_getElem? e
      subst ey ex
      have := never_len s ms
      exact ⟨rfl, _, rfl, _, rfl, by omega, never_none s ms, fun H3 S3 => hC _ S3⟩
  · exact ⟨D, List.replicate 23 true, rfl, SqL.of e2, q _ ((((same_new hz1 _).trans (same_new hz2 _)).trans (same_new hz3 _)).trans S2)⟩
end
end K11
/-! Qn -/
namespace K11
open PySem L2 Lad
abbrev sBnd : Stmt := topS 62
theorem scBnd : FnScope ["_law_purse_here", "_law_many_here", "_law_chain", "_law_turn", "_law_row", "_law_great", "_law_ladder_here", "_law_k"] ["_law_purse_here"] (defScope sBnd) := ⟨rfl, rfl, rfl, by decide +kernel, rfl, by decide +kernel, by decide +kernel⟩
def spBnd : Sp := fun vs H Q _ => ∃ p : Addr, vs = [.ref p] ∧ Purse H p ∧ ∀ H', Drawn p H H' → Q (.bl true) H'
def GoodV (K : PySem.W.Frag) (H : Hp) (x : V) : Prop := ∃ l, LV K H x l ∧ l.ok = true ∧ gd 60 l ∧ l.parts ≤ 60 ∧ l.deep ≤ 12
def BadV (K : PySem.W.Frag) (H : Hp) (x : V) : Prop := ∃ l, LV K H x l ∧ gd 61 l ∧ rd (sh l) = none ∧ l.parts ≤ 100 ∧ l.deep ≤ 20
theorem yes_of {σ : St} {H : Hp} {A B : Hp → Prop} (h : A H) : tYes σ H (fun b H3 => if b = true then A H3 else B H3) := by
  show (if true = true then A H else B H)
  rw [if_pos rfl]
  exact h
section
variable {P : Program} {w : World} {K : PySem.W.Frag} {mg : Str → Option Value} {base : Heap} {f gD gS gB gR : Addr} {fd dD dS dB dR : FuncData}
theorem ok_bnd (F : Fun K "_law_at_bounds" "_law_at_bounds" sBnd f fd)
    (GD : FnOk P w K mg base CX0 1 gD dD ["_law_purse_here", "_law_many_here"] spDraw) (bD : Binds K dD ["_law_purse_here", "_law_many_here"] []) (kD : PySem.W.keepIn K (.ref gD) = true) (mD : mg "_law_draw" = some (.ref gD))
    (GS : FnOk P w K mg base CX0 50 gS dS ["_law_ladder_here"] (spShow K 50)) (bS : Binds K dS ["_law_ladder_here"] []) (kS : PySem.W.keepIn K (.ref gS) = true) (mS : mg "_law_shown" = some (.ref gS))
    (GB : FnOk P w K mg base CX0 85 gB dB ["_law_text", "_law_ladder_here"] (spTB K)) (bB : Binds K dB ["_law_text", "_law_ladder_here"] []) (kB : PySem.W.keepIn K (.ref gB) = true) (mB : mg "_law_there_and_back" = some (.ref gB))
    (GR : FnOk P w K mg base CX0 39 gR dR ["_law_text"] spRef) (bR : Binds K dR ["_law_text"] []) (kR : PySem.W.keepIn K (.ref gR) = true) (mR : mg "_law_refused" = some (.ref gR))
    (mr : mg "range" = none) (mT : mg "tuple" = none) : FnOk P w K mg base CX0 86 f fd ["_law_purse_here"] spBnd := by
  refine F.ok scBnd (fun vs H Q E h => ?_) (fun cdv A outer s H vs Q E hr h => ?_)
  · obtain ⟨p, rfl, _⟩ := h
    rfl
  obtain ⟨p, rfl, hp, q⟩ := h
  have hrD : Room 1 _ := hr.mono (by decide)
  have hrS : Room 50 _ := hr.mono (by decide)
  have hrB : Room 85 _ := hr.mono (by decide)
  have hrR : Room 39 _ := hr.mono (by decide)
  refine ⟨_, pss_cons (ps_set (i := 1) scBnd.nd rfl (.inr rfl) (pe_op op_add pe_int (pe_call GD hrD (by rfl) mD kD bD .nil pass0 (pa_cons (pv 0) (pa_cons (pe_int) pa_nil)))))
    (pss_cons (ps_set (i := 2) scBnd.nd rfl (.inl rfl) (pe_tup (pa_cons (pe_tup (pa_cons (pe_tup (pa_nil)) (pa_cons (pe_int) (pa_nil)))) (pa_nil))))
    (pss_cons (ps_for PassesOwn.never rfl (pi_range1 (by rfl) mr (pa_cons pe_int pa_nil)) (pg_name (i := 3) scBnd.nd rfl (.inl rfl)) (pss_one (ps_set (i := 2) scBnd.nd rfl (.inl rfl) (pe_tup (pa_cons (pe_tup (pa_cons (pv 2) (pa_cons (pe_op op_add pe_int (pe_call GD hrD (by rfl) mD kD bD .nil pass0 (pa_cons (pv 0) (pa_cons (pe_int) pa_nil)))) (pa_nil)))) (pa_nil))))))
    (pss_cons (ps_set (i := 4) scBnd.nd rfl (.inl rfl) (pe_callTy call_tuple_of (by rfl) mT (by decide +kernel) (pa_cons (pe_lc (own := [("_law_k", 7)]) (g := gName 7) (tt := tYes) rfl scBnd.nd (pi_range1 (by rfl) mr (pa_cons pe_int pa_nil)) (blkOk_by (N := ["_law_purse_here", "_law_many_here", "_law_chain", "_law_turn", "_law_row", "_law_great", "_law_ladder_here", "_law_k"]) (sc := defScope sBnd) (by decide +kernel)) (fun _ _ _ _ _ => pg_name (i := 7) scBnd.nd rfl (Or.inl rfl)) (fun _ _ _ _ _ => pts_nil) (fun _ _ _ _ _ => pe_tup (pa_cons (pe_tup (pa_cons (pe_tup (pa_cons (pe_tup (pa_nil)) (pa_cons (pe_op op_sub pe_int (pv 7)) (pa_nil)))) (pa_nil))) (pa_cons (pv 1) (pa_nil))))) pa_nil)))
    (pss_cons (ps_set (i := 5) scBnd.nd rfl (.inl rfl) (pe_op op_add (pe_op op_pow pe_int pe_int) (pe_call GD hrD (by rfl) mD kD bD .nil pass0 (pa_cons (pv 0) (pa_cons (pe_op op_pow pe_int pe_int) pa_nil)))))
    (pss_cons (ps_for PassesOwn.never rfl (pi_list (pe_lst (pa_cons (pv 2) (pa_cons (pv 4) (pa_cons (pe_tup (pa_cons (pe_tup (pa_cons (pe_ix ix_tup (pe_ix ix_tup (pv 2) pe_int (fun _ _ => rfl)) pe_int (fun _ _ => rfl)) (pa_cons (pv 5) (pa_nil)))) (pa_nil))) (pa_cons (pe_tup (pa_cons (pe_tup (pa_cons (pe_tup (pa_nil)) (pa_cons (pv 5) (pa_nil)))) (pa_nil))) (pa_nil))))))) (pg_name (i := 6) scBnd.nd rfl (.inl rfl)) (pss_one (ps_if (pt_not (pt_val (pe_call GB hrB (by rfl) mB kB bB .nil pass0 (pa_cons (pe_call GS hrS (by rfl) mS kS bS .nil pass0 (pa_cons (pv 6) pa_nil)) (pa_cons (pv 6) pa_nil))))) (pss_one (ps_ret pe_bl)) pss_nil)))
    (pss_cons (ps_for PassesOwn.never rfl (pi_list (pe_lst (pa_cons (pe_tup (pa_cons (pe_tup (pa_cons (pv 2) (pa_cons (pv 1) (pa_nil)))) (pa_nil))) (pa_cons (pe_op op_catA (pv 4) (pe_tup (pa_cons (pe_tup (pa_cons (pe_tup (pa_nil)) (pa_cons (pv 1) (pa_nil)))) (pa_nil)))) (pa_cons (pe_tup (pa_cons (pe_tup (pa_cons (pe_ix ix_tup (pe_ix ix_tup (pv 2) pe_int (fun _ _ => rfl)) pe_int (fun _ _ => rfl)) (pa_cons (pe_op op_mul pe_int (pv 5)) (pa_nil)))) (pa_nil))) (pa_cons (pe_tup (pa_cons (pe_tup (pa_cons (pe_tup (pa_nil)) (pa_cons (pe_op op_mul pe_int (pv 5)) (pa_nil)))) (pa_nil))) (pa_nil))))))) (pg_name (i := 6) scBnd.nd rfl (.inl rfl)) (pss_one (ps_if (pt_not (pt_val (pe_call GR hrR (by rfl) mR kR bR .nil pass0 (pa_cons (pe_call GS hrS (by rfl) mS kS bS .nil pass0 (pa_cons (pv 6) pa_nil)) pa_nil)))) (pss_one (ps_ret pe_bl)) pss_nil)))
    (pss_one (ps_ret pe_bl)))))))), ?_⟩
  have big := big16
  -- 1. how many
  refine ⟨_, rfl, p, 9, rfl, hp, by decide, by decide, fun v H1 v0 v1 D1 => ⟨_, _, rfl, rfl, ?_⟩⟩
  -- 2. the chain
  refine ⟨by show 0 ≤ sizeLine; omega, fun q0 h0 => ⟨by show 2 ≤ sizeLine; omega, fun q1 h1 => ⟨by show 1 ≤ sizeLine; omega, fun q2 h2 => ?_⟩⟩⟩
  have D2 := D1.trans (Drawn.of D1.2 ((same_new h0 (.tup [])).trans ((same_new h1 (.tup [.ref q0, .int 1])).trans (same_new h2 (.tup [.ref q1])))))
  have lvo : LV K (upd (upd (upd H1 q0 (.tup [])) q1 (.tup [.ref q0, .int 1])) q2 (.tup [.ref q1])) (.ref q2) one :=
    ⟨q2, _, rfl, SqT.of upd_same, LVs.cons (PV.gr (gr_new h2 _) (PV.mk' (SqT.of upd_same) (LV.gr (gr_new h1 _) (LV.nil (SqT.of upd_same))))) rfl⟩
  refine ⟨11, rfl, by decide, by decide, ?_⟩
  refine for_range (lo := 0) (n := 11) (fun i σ H' => ∃ (vc : V) (c : Lad) (o3 : Option V), σ = [some (.ref p), some (.int (2 + v)), some vc, o3, none, none, none, none] ∧ Drawn p H H' ∧ Chain i c ∧ LV K H' vc c) ⟨_, one, none, rfl, D2, rfl, lvo⟩ ?_ ?_
  · rintro i σ H3 hi ⟨vc, c, o3, rfl, D3, hc, lvc⟩
    refine ⟨_, rfl, _, rfl, p, 2, rfl, D3.2, by decide, by decide, fun d H4 d0 d1 D4 => ⟨_, _, rfl, rfl, by show 2 ≤ sizeLine; omega, fun t1 h1 => ⟨by show 1 ≤ sizeLine; omega, fun t2 h2 => ?_⟩⟩⟩
    refine ⟨.ref t2, .cons c (1 + d) .nil, _, rfl, (D3.trans D4).trans (Drawn.of D4.2 ((same_new h1 _).trans (same_new h2 _))), ⟨c, 1 + d, rfl, hc, by omega, by omega⟩, t2, _, rfl, SqT.of upd_same, LVs.cons (PV.gr (gr_new h2 _) (PV.mk' (SqT.of upd_same) (LV.gr ((Drawn.gr D3.2 D4).trans (gr_new h1 _)) lvc))) rfl⟩
  rintro σ H5 ⟨vc, c, o3, rfl, D5, hc, lvc⟩
  have m1 : 2 ≤ 2 + v := by omega
  have m2 : 2 + v ≤ 10 := by omega
  -- 3. the row
  refine ⟨30, rfl, by decide, by decide, fun D hD => ?_⟩
  refine lc_range (lo := 0) (n := 30) (fun i H' => Same H5 H' ∧ ∃ ys R, R = rowN (2 + v) i ∧ H' D = some (.lst ys) ∧ LVs K H' ys R ∧ ys.length = i) ⟨same_new hD _, [], .nil, rfl, upd_same, rfl, rfl⟩ ?_ ?_
  · rintro i H6 hi ⟨S6, ys, R, eR, e6, l6, ly⟩
    refine ⟨rfl, yes_of ⟨by show 0 ≤ sizeLine; omega, fun a0 h0 => ⟨_, rfl, _, _, rfl, rfl, by show 2 ≤ sizeLine; omega, fun a1 h1 => ⟨by show 1 ≤ sizeLine; omega, fun a2 h2 => ⟨_, rfl, by show 2 ≤ sizeLine; omega, fun a3 h3 => ?_⟩⟩⟩⟩⟩
    have S7 := (same_new h0 (.tup [])).trans ((same_new h1 (.tup [.ref a0, .int (31 - (0 + (i : Int)))])).trans ((same_new h2 (.tup [.ref a1])).trans (same_new h3 (.tup [.ref a2, .int (2 + v)]))))
    have pv : PV K _ (.ref a3) (.cons .nil (31 - (0 + (i : Int))) .nil) (2 + v) := PV.mk' (SqT.of (upd_same (a := a3) (o := .tup [.ref a2, .int (2 + v)]))) (LV.gr (gr_new h3 _) ⟨a2, _, rfl, SqT.of upd_same, LVs.cons (PV.gr (gr_new h2 _) (PV.mk' (SqT.of upd_same) (LV.gr (gr_new h1 _) (LV.nil (SqT.of upd_same))))) rfl⟩)
    refine ⟨ys, S7 _ _ e6, by omega, Same.upd_at hD (S6.trans S7) _, ys ++ [.ref a3], app R (.cons (.cons .nil (31 - (0 + (i : Int))) .nil) (2 + v) .nil), by rw [eR]; rfl, upd_same, ?_, by rw [List.length_append, ly]; rfl⟩
    have g8 := gr_lst (S7 _ _ e6) (.lst (ys ++ [V.ref a3]))
    exact LVs.app (LVs.gr ((Same.gr S7).trans g8) l6) (LVs.cons (PV.gr g8 pv) rfl)
  rintro H6 ⟨S6, ys, R, eR, e6, l6, ly⟩
  obtain ⟨Rok, Rg, Rp, Rd⟩ := row_facts eR rfl m1 m2
  clear eR
  refine ⟨D, ys, rfl, .inl ⟨SqL.of e6, fun ra hra => ?_⟩⟩
  have g7 := gr_new hra (.tup ys)
  have S7 : Same H5 (upd H6 ra (.tup ys)) := S6.trans (same_new hra _)
  have lvr : LV K (upd H6 ra (.tup ys)) (.ref ra) R := ⟨ra, ys, rfl, SqT.of upd_same, LVs.gr g7 l6⟩
  have hrr : SqT K (upd H6 ra (.tup ys)) ra ys := SqT.of upd_same
  have lrs : LVs K (upd H6 ra (.tup ys)) ys R := LVs.gr g7 l6
  have D7 : Drawn p H (upd H6 ra (.tup ys)) := D5.trans (Drawn.of D5.2 S7)
  have lvc7 : LV K (upd H6 ra (.tup ys)) vc c := LV.gr (Same.gr S7) lvc
  show gName 4 _ _ (upd H6 ra (.tup ys)) _
  generalize upd H6 ra (.tup ys) = H7 at S7 lvr hrr lrs D7 lvc7
  -- 4. the great number

  refine ⟨_, _, rfl, rfl, ⟨by decide, by decide, by decide⟩, _, rfl, _, _, rfl, rfl, ⟨by decide, by decide, by decide⟩, p, _, rfl, D7.2, by decide, by decide, fun g H8 g0 g1 D8 => ⟨_, _, rfl, rfl, ?_⟩⟩
  have g1' : g < 1000000 := g1
  have D78 := D7.trans D8
  have G8 := Drawn.gr D7.2 D8
  have cf := chain_facts 11 c hc
  have hc0 := hc
  obtain ⟨e, m', rfl, eg, ep, ed, eo⟩ := chain_top hc
  obtain ⟨ca, cs, rfl, hca, lcs⟩ := LV.gr G8 lvc7
  obtain ⟨vp, zs, rfl, ⟨pa, ve, rfl, hpa, lve⟩, lz⟩ := lcs.uncons
  obtain rfl : zs = [] := lz
  have lvr8 := LV.gr G8 lvr
  have hrr8 := SqT.gr G8 hrr
  have lrs8 := LVs.gr G8 lrs
  have lvc8 : LV K H8 (.ref ca) (.cons e m' .nil) := ⟨ca, _, rfl, hca, lcs⟩
  have n1 : (10 : Int) ^ 59 ≤ (10 : Int) ^ (59 : Int).toNat + g := by
    rw [show (10 : Int) ^ (59 : Int).toNat = 10 ^ 59 from rfl]
    omega
  have n2 : (10 : Int) ^ (59 : Int).toNat + g < 10 ^ 60 := by
    rw [show (10 : Int) ^ (59 : Int).toNat = 10 ^ 59 from rfl]
    omega
  show gName 5 (.int ((10 : Int) ^ (59 : Int).toNat + g)) _ _ _
  generalize (10 : Int) ^ (59 : Int).toNat + g = n at n1 n2
  -- 5. the good ones
  refine ⟨_, rfl, _, rfl, _, rfl, ca, _, 0, _, rfl, rfl, hca, rfl, pa, _, 0, _, rfl, rfl, hpa, rfl, _, rfl, by show 2 ≤ sizeLine; omega, fun u1 h1 => ⟨by show 1 ≤ sizeLine; omega, fun u2 h2 => ⟨by show 0 ≤ sizeLine; omega, fun u3 h3 => ⟨_, rfl, by show 2 ≤ sizeLine; omega, fun u4 h4 => ⟨by show 1 ≤ sizeLine; omega, fun u5 h5 => ⟨by show 4 ≤ sizeLine; omega, fun z hz => ?_⟩⟩⟩⟩⟩⟩
  have T1 := same_new h1 (.tup [ve, .int n])
  have T2 := same_new h2 (.tup [.ref u1])
  have T3 := same_new h3 (.tup [])
  have T4 := same_new h4 (.tup [.ref u3, .int n])
  have T5 := same_new h5 (.tup [.ref u4])
  have T6 := same_new hz (.lst [.ref ca, .ref ra, .ref u2, .ref u5])
  have T16 := T1.trans (T2.trans (T3.trans (T4.trans (T5.trans T6))))
  have gn : ∀ {x : Lad}, x.ok = true → gd 60 x → x.parts ≤ 11 → x.deep ≤ 11 → (Lad.cons x n .nil).ok = true ∧ gd 60 (.cons x n .nil) ∧ (Lad.cons x n .nil).parts ≤ 60 ∧ (Lad.cons x n .nil).deep ≤ 12 := fun {x} a b c d => by
    refine ⟨?_, ⟨b, ⟨by omega, n2⟩, trivial⟩, ?_, ?_⟩
    · show ((x.ok && decide (1 ≤ n)) && true && true) = true
      rw [a, decide_eq_true (by omega)]
      rfl
    · show 1 + x.parts + 0 ≤ _
      omega
    · show max (1 + x.deep) 0 ≤ _
      omega
  have w1 : LV K (upd (upd H8 u1 (.tup [ve, .int n])) u2 (.tup [.ref u1])) (.ref u2) (.cons e n .nil) :=
    ⟨u2, _, rfl, SqT.of upd_same, LVs.cons (PV.gr (gr_new h2 _) (PV.mk' (SqT.of upd_same) (LV.gr (gr_new h1 _) lve))) rfl⟩
  have w2 : LV K (upd (upd (upd (upd (upd H8 u1 (.tup [ve, .int n])) u2 (.tup [.ref u1])) u3 (.tup [])) u4 (.tup [.ref u3, .int n])) u5 (.tup [.ref u4])) (.ref u5) (.cons .nil n .nil) :=
    ⟨u5, _, rfl, SqT.of upd_same, LVs.cons (PV.gr (gr_new h5 _) (PV.mk' (SqT.of upd_same) (LV.gr (gr_new h4 _) (LV.nil (SqT.of upd_same))))) rfl⟩
  have B1 : ∀ x ∈ ([.ref ca, .ref ra, .ref u2, .ref u5] : List V), GoodV K _ x := fun x hx => by
    rcases List.mem_cons.mp hx with rfl | hx
    · exact ⟨_, LV.gr (Same.gr T16) lvc8, cf.1, cf.2.1, by omega, by omega⟩
    rcases List.mem_cons.mp hx with rfl | hx
    · exact ⟨_, LV.gr (Same.gr T16) lvr8, Rok, Rg, by omega, by omega⟩
    rcases List.mem_cons.mp hx with rfl | hx
    · exact ⟨_, LV.gr (Same.gr (T3.trans (T4.trans (T5.trans T6)))) w1, gn eo eg (by omega) (by omega)⟩
    rcases List.mem_cons.mp hx with rfl | hx
    · exact ⟨_, LV.gr (Same.gr T6) w2, gn rfl trivial (Nat.zero_le _) (Nat.zero_le _)⟩
    exact absurd hx List.not_mem_nil
  have ez := upd_same (H := upd (upd (upd (upd (upd H8 u1 (.tup [ve, .int n])) u2 (.tup [.ref u1])) u3 (.tup [])) u4 (.tup [.ref u3, .int n])) u5 (.tup [.ref u4])) (a := z) (o := .lst [.ref ca, .ref ra, .ref u2, .ref u5])
  have D9 := D78.trans (Drawn.of D8.2 T16)
  refine ⟨z, rfl, ⟨_, SqL.of ez⟩, ?_⟩
  have hca9 := SqT.same T16 hca
  have hpa9 := SqT.same T16 hpa
  have lve9 := LV.gr (Same.gr T16) lve
  have lvc9 := LV.gr (Same.gr T16) lvc8
  have hrr9 := SqT.same T16 hrr8
  have lrs9 := LVs.gr (Same.gr T16) lrs8
  generalize upd (upd (upd (upd (upd (upd H8 u1 (.tup [ve, .int n])) u2 (.tup [.ref u1])) u3 (.tup [])) u4 (.tup [.ref u3, .int n])) u5 (.tup [.ref u4])) z (.lst [.ref ca, .ref ra, .ref u2, .ref u5]) = H9 at *
  refine for_list (xs := [.ref ca, .ref ra, .ref u2, .ref u5]) (fun i σ H' => ∃ o6, σ = [some (.ref p), some (.int (2 + v)), some (.ref ca), o3, some (.ref ra), some (.int n), o6, none] ∧ Same H9 H') ⟨none, rfl, Same.refl _⟩ (fun i σ H' _ h => SqL.of (by obtain ⟨_, _, S⟩ := h; exact S _ _ ez)) ?_ ?_
  · rintro i x σ H10 hx ⟨o6, rfl, S10⟩
    obtain ⟨l, lx, lo, lg, lp, ld⟩ := B1 x (List.mem_of_getElem? hx)
    refine ⟨_, rfl, x, l, rfl, LV.gr (Same.gr S10) lx, by omega, by decide, gd_mono (by decide : 60 ≤ 61) l lg, by omega, fun H11 S11 => ⟨_, rfl, x, l, rfl, LV.gr (Same.gr (S10.trans S11)) lx, lo, lg, lp, ld, fun H12 S12 => ⟨_, rfl, iteF ⟨_, rfl, (S10.trans S11).trans S12⟩⟩⟩⟩
  rintro σ H10 ⟨o6, rfl, S10⟩
  -- 6. those beyond
  have hca10 := SqT.same S10 hca9
  have hpa10 := SqT.same S10 hpa9
  have lve10 := LV.gr (Same.gr S10) lve9
  have lvc10 := LV.gr (Same.gr S10) lvc9
  have hrr10 := SqT.same S10 hrr9
  have lrs10 := LVs.gr (Same.gr S10) lrs9
  have hyl : ys.length ≤ 60 := by
    rw [LVs.len lrs10]
    have := len_parts R
    omega
  refine ⟨_, rfl, _, rfl, by show 2 ≤ sizeLine; omega, fun u1 h1 => ⟨by show 1 ≤ sizeLine; omega, fun u2 h2 => ⟨_, rfl, by show 0 ≤ sizeLine; omega, fun u3 h3 => ⟨_, rfl, by show 2 ≤ sizeLine; omega, fun u4 h4 => ⟨by show 1 ≤ sizeLine; omega, fun u5 h5 => ?_⟩⟩⟩⟩⟩
  have Tb := (same_new h1 (.tup [.ref ca, .int (2 + v)])).trans ((same_new h2 (.tup [.ref u1])).trans ((same_new h3 (.tup [])).trans ((same_new h4 (.tup [.ref u3, .int (2 + v)])).trans (same_new h5 (.tup [.ref u4])))))
  have w1 : LV K (upd (upd H10 u1 (.tup [.ref ca, .int (2 + v)])) u2 (.tup [.ref u1])) (.ref u2) (.cons (.cons e m' .nil) (2 + v) .nil) :=
    ⟨u2, _, rfl, SqT.of upd_same, LVs.cons (PV.gr (gr_new h2 _) (PV.mk' (SqT.of upd_same) (LV.gr (gr_new h1 _) lvc10))) rfl⟩
  have w2 : LVs K (upd (upd (upd (upd (upd H10 u1 (.tup [.ref ca, .int (2 + v)])) u2 (.tup [.ref u1])) u3 (.tup [])) u4 (.tup [.ref u3, .int (2 + v)])) u5 (.tup [.ref u4])) [.ref u4] (.cons .nil (2 + v) .nil) :=
    LVs.cons (PV.gr (gr_new h5 _) (PV.mk' (SqT.of upd_same) (LV.gr (gr_new h4 _) (LV.nil (SqT.of upd_same))))) rfl
  refine catA_of (SqT.same Tb hrr10) (SqT.of upd_same) (by show ys.length + 1 ≤ sizeLine; omega) fun rb HB SB hrb => ?_
  have lrb : LV K HB (.ref rb) (app R (.cons .nil (2 + v) .nil)) := ⟨rb, _, rfl, hrb, LVs.app (LVs.gr (Same.gr (Tb.trans SB)) lrs10) (LVs.gr (Same.gr SB) w2)⟩
  have w1B := LV.gr (Same.gr (((same_new h3 (.tup [])).trans ((same_new h4 (.tup [.ref u3, .int (2 + v)])).trans (same_new h5 (.tup [.ref u4])))).trans SB)) w1
  have hcaB := SqT.same (Tb.trans SB) hca10
  have hpaB := SqT.same (Tb.trans SB) hpa10
  have lveB := LV.gr (Same.gr (Tb.trans SB)) lve10
  have SHB := S10.trans (Tb.trans SB)
  refine ⟨_, rfl, ca, _, 0, _, rfl, rfl, hcaB, rfl, pa, _, 0, _, rfl, rfl, hpaB, rfl, _, rfl, _, _, rfl, rfl, .inl ⟨by decide, by decide⟩, by show 2 ≤ sizeLine; omega, fun u6 h6 => ⟨by show 1 ≤ sizeLine; omega, fun u7 h7 => ⟨by show 0 ≤ sizeLine; omega, fun u8 h8 => ⟨_, rfl, _, _, rfl, rfl, .inl ⟨by decide, by decide⟩, by show 2 ≤ sizeLine; omega, fun u9 h9 => ⟨by show 1 ≤ sizeLine; omega, fun u0 h0 => ⟨by show 4 ≤ sizeLine; omega, fun z2 hz2 => ?_⟩⟩⟩⟩⟩⟩
  have V1 := same_new h6 (.tup [ve, .int (10 * n)])
  have V2 := same_new h7 (.tup [.ref u6])
  have V3 := same_new h8 (.tup [])
  have V4 := same_new h9 (.tup [.ref u8, .int (10 * n)])
  have V5 := same_new h0 (.tup [.ref u9])
  have V6 := same_new hz2 (.lst [.ref u2, .ref rb, .ref u7, .ref u0])
  have V16 := V1.trans (V2.trans (V3.trans (V4.trans (V5.trans V6))))
  have w3 : LV K (upd (upd HB u6 (.tup [ve, .int (10 * n)])) u7 (.tup [.ref u6])) (.ref u7) (.cons e (10 * n) .nil) :=
    ⟨u7, _, rfl, SqT.of upd_same, LVs.cons (PV.gr (gr_new h7 _) (PV.mk' (SqT.of upd_same) (LV.gr (gr_new h6 _) lveB))) rfl⟩
  have w4 : LV K (upd (upd (upd (upd (upd HB u6 (.tup [ve, .int (10 * n)])) u7 (.tup [.ref u6])) u8 (.tup [])) u9 (.tup [.ref u8, .int (10 * n)])) u0 (.tup [.ref u9])) (.ref u0) (.cons .nil (10 * n) .nil) :=
    ⟨u0, _, rfl, SqT.of upd_same, LVs.cons (PV.gr (gr_new h0 _) (PV.mk' (SqT.of upd_same) (LV.gr (gr_new h9 _) (LV.nil (SqT.of upd_same))))) rfl⟩
  have fd := far_deep hc0 m1 m2
  have fp := far_parts Rg Rp Rd m1 m2
  have fg := far_great eg (n := 10 * n) (by omega) (by omega)
  have f0 := far_great (e := .nil) trivial (n := 10 * n) (by omega) (by omega)
  have B2 : ∀ x ∈ ([.ref u2, .ref rb, .ref u7, .ref u0] : List V), BadV K _ x := fun x hx => by
    rcases List.mem_cons.mp hx with rfl | hx
    · exact ⟨_, LV.gr (Same.gr V16) w1B, fd.1, fd.2.1, by omega, by omega⟩
    rcases List.mem_cons.mp hx with rfl | hx
    · exact ⟨_, LV.gr (Same.gr V16) lrb, fp.1, fp.2.1, by omega, by omega⟩
    rcases List.mem_cons.mp hx with rfl | hx
    · exact ⟨_, LV.gr (Same.gr (V3.trans (V4.trans (V5.trans V6)))) w3, fg.1, fg.2, by show 1 + e.parts + 0 ≤ 100; omega, by show max (1 + e.deep) 0 ≤ 20; omega⟩
    rcases List.mem_cons.mp hx with rfl | hx
    · exact ⟨_, LV.gr (Same.gr V6) w4, f0.1, f0.2, by show 1 + 0 + 0 ≤ 100; omega, by show max (1 + 0) 0 ≤ 20; omega⟩
    exact absurd hx List.not_mem_nil
  have ez2 := upd_same (H := upd (upd (upd (upd (upd HB u6 (.tup [ve, .int (10 * n)])) u7 (.tup [.ref u6])) u8 (.tup [])) u9 (.tup [.ref u8, .int (10 * n)])) u0 (.tup [.ref u9])) (a := z2) (o := .lst [.ref u2, .ref rb, .ref u7, .ref u0])
  have D11 := D9.trans (Drawn.of D9.2 (SHB.trans V16))
  refine ⟨z2, rfl, ⟨_, SqL.of ez2⟩, ?_⟩
  generalize upd (upd (upd (upd (upd (upd HB u6 (.tup [ve, .int (10 * n)])) u7 (.tup [.ref u6])) u8 (.tup [])) u9 (.tup [.ref u8, .int (10 * n)])) u0 (.tup [.ref u9])) z2 (.lst [.ref u2, .ref rb, .ref u7, .ref u0]) = H11 at B2 ez2 D11
  refine for_list (xs := [.ref u2, .ref rb, .ref u7, .ref u0]) (fun i σ H' => ∃ o6, σ = [some (.ref p), some (.int (2 + v)), some (.ref ca), o3, some (.ref ra), some (.int n), o6, none] ∧ Same H11 H') ⟨_, rfl, Same.refl _⟩ (fun i σ H' _ h => SqL.of (by obtain ⟨_, _, S⟩ := h; exact S _ _ ez2)) ?_ ?_
  · rintro i x σ H12 hx ⟨o6, rfl, S12⟩
    obtain ⟨l, lx, lg, lb, lp, ld⟩ := B2 x (List.mem_of_getElem? hx)
    have hlen := sh_len60 lg lp
    exact ⟨_, rfl, x, l, rfl, LV.gr (Same.gr S12) lx, by omega, by decide, lg, by omega, fun H13 S13 => ⟨_, rfl, by omega, lb, fun H14 S14 => ⟨_, rfl, iteF ⟨_, rfl, (S12.trans S13).trans S14⟩⟩⟩⟩
  rintro σ H12 ⟨o6, rfl, S12⟩
  exact q H12 (D11.trans (Drawn.of D11.2 S12))
end
end K11
/-! Qo -/
namespace K11
open PySem L2 Lad
abbrev sLaw : Stmt := topS 63
theorem scLaw : FnScope ["_law_script", "_law_k", "_law_cell", "_law_purse_here", "_law_ladder_here", "_law_text"] ["_law_script"] (defScope sLaw) := ⟨rfl, rfl, rfl, by decide +kernel, rfl, by decide +kernel, by decide +kernel⟩
/-- what law(script) promises -/
def spLaw (K : PySem.W.Frag) : Sp := fun vs H Q _ => ∃ (a : Addr) (ns : List Int), vs = [.ref a] ∧ SqL K H a (ns.map V.int) ∧ ns.length ≤ 63 ∧ ∀ H', Q (.bl true) H'
/-- _law_ladder, the depth 12 at most -/
def spLLadU (K : PySem.W.Frag) : Sp := fun vs H Q E => ∃ n : Nat, n ≤ 12 ∧ spLLad K n vs H Q E
theorem llad_u {P : Program} {w : World} {K : PySem.W.Frag} {mg : Str → Option Value} {base : Heap} {f : Addr} {fd : FuncData} {ps : List Str} (h : ∀ n : Nat, FnOk P w K mg base CX0 (n + 2) f fd ps (spLLad K n)) : FnOk P w K mg base CX0 14 f fd ps (spLLadU K) :=
  ⟨fun vs H Q E ⟨n, _, z⟩ => (h n).len vs H Q E z, fun A outer s H args us vs Q E hr he hb hv ⟨n, hn, z⟩ => (h n).run A outer s H args us vs Q E (hr.mono (by omega)) he hb hv z⟩
theorem cut_ints (ns : List Int) (lo hi : Option Int) : ∃ ms : List Int, cutV (ns.map V.int) lo hi = ms.map V.int ∧ ms.length ≤ ns.length := by
  refine ⟨(ns.drop (HT.sIx (ns.map V.int).length 0 lo)).take (HT.sIx (ns.map V.int).length (ns.map V.int).length hi - HT.sIx (ns.map V.int).length 0 lo), ?_, ?_⟩
  · unfold cutV
    rw [List.map_take, List.map_drop]
  · rw [List.length_take, List.length_drop]
    omega
theorem menu12 {v : Int} (h0 : 0 ≤ v) (h1 : v < 4) : ∃ n : Nat, atI ([.int 1, .int 2, .int 4, .int 12] : List V) v = some (.int n) ∧ 1 ≤ n ∧ n ≤ 12 := by
  have : v = 0 ∨ v = 1 ∨ v = 2 ∨ v = 3 := by omega
  rcases this with rfl | rfl | rfl | rfl
  · exact ⟨1, rfl, by decide, by decide⟩
  · exact ⟨2, rfl, by decide, by decide⟩
  · exact ⟨4, rfl, by decide, by decide⟩
  · exact ⟨12, rfl, by decide, by decide⟩
section
variable {P : Program} {w : World} {K : PySem.W.Frag} {mg : Str → Option Value} {base : Heap} {f gA gP gD gL gS gB gR gE gN gO gV gW : Addr} {fd dA dP dD dL dS dB dR dE dN dO dV dW : FuncData}
theorem ok_law (F : Fun K "law" "law" sLaw f fd)
    (GA : FnOk P w K mg base CX0 1 gA dA ["_law_script", "_law_k"] (spLawAt K)) (bA : Binds K dA ["_law_script", "_law_k"] []) (kA : PySem.W.keepIn K (.ref gA) = true) (mA : mg "_law_at" = some (.ref gA))
    (GP : FnOk P w K mg base CX0 1 gP dP ["_law_cell", "_law_salt"] spPurse) (bP : Binds K dP ["_law_cell", "_law_salt"] []) (kP : PySem.W.keepIn K (.ref gP) = true) (mP : mg "_law_purse" = some (.ref gP))
    (GD : FnOk P w K mg base CX0 1 gD dD ["_law_purse_here", "_law_many_here"] spDraw) (bD : Binds K dD ["_law_purse_here", "_law_many_here"] []) (kD : PySem.W.keepIn K (.ref gD) = true) (mD : mg "_law_draw" = some (.ref gD))
    (GL : FnOk P w K mg base CX0 14 gL dL ["_law_purse_here", "_law_under", "_law_left"] (spLLadU K)) (bL : Binds K dL ["_law_purse_here", "_law_under", "_law_left"] []) (kL : PySem.W.keepIn K (.ref gL) = true) (mL : mg "_law_ladder" = some (.ref gL))
    (GS : FnOk P w K mg base CX0 20 gS dS ["_law_ladder_here"] (spShow K 20)) (bS : Binds K dS ["_law_ladder_here"] []) (kS : PySem.W.keepIn K (.ref gS) = true) (mS : mg "_law_shown" = some (.ref gS))
    (GB : FnOk P w K mg base CX0 85 gB dB ["_law_text", "_law_ladder_here"] (spTB K)) (bB : Binds K dB ["_law_text", "_law_ladder_here"] []) (kB : PySem.W.keepIn K (.ref gB) = true) (mB : mg "_law_there_and_back" = some (.ref gB))
    (GR : FnOk P w K mg base CX0 39 gR dR ["_law_text"] spRef) (bR : Binds K dR ["_law_text"] []) (kR : PySem.W.keepIn K (.ref gR) = true) (mR : mg "_law_refused" = some (.ref gR))
    (GE : FnOk P w K mg base CX0 21 gE dE ["_law_purse_here", "_law_ladder_here", "_law_text"] (spBent K)) (bE : Binds K dE ["_law_purse_here", "_law_ladder_here", "_law_text"] []) (kE : PySem.W.keepIn K (.ref gE) = true) (mE : mg "_law_bent" = some (.ref gE))
    (GN : FnOk P w K mg base CX0 85 gN dN ["_law_text"] spROrN) (bN : Binds K dN ["_law_text"] []) (kN : PySem.W.keepIn K (.ref gN) = true) (mN : mg "_law_read_or_not" = some (.ref gN))
    (GO : FnOk P w K mg base CX0 2 gO dO ["_law_purse_here", "_law_text"] (spOther K)) (bO : Binds K dO ["_law_purse_here", "_law_text"] []) (kO : PySem.W.keepIn K (.ref gO) = true) (mO : mg "_law_other_sign" = some (.ref gO))
    (GV : FnOk P w K mg base CX0 85 gV dV [] spNever) (bV : Binds K dV [] []) (kV : PySem.W.keepIn K (.ref gV) = true) (mV : mg "_law_never" = some (.ref gV))
    (GW : FnOk P w K mg base CX0 86 gW dW ["_law_purse_here"] spBnd) (bW : Binds K dW ["_law_purse_here"] []) (kW : PySem.W.keepIn K (.ref gW) = true) (mW : mg "_law_at_bounds" = some (.ref gW))
    (me : mg "enumerate" = none) : FnOk P w K mg base CX0 87 f fd ["_law_script"] (spLaw K) := by
  refine F.ok scLaw (fun vs H Q E h => ?_) (fun cdv A outer s H vs Q E hr h => ?_)
  · obtain ⟨a, ns, rfl, _⟩ := h
    rfl
  obtain ⟨a, ns, rfl, hS, h63, q⟩ := h
  have hrA : Room 1 _ := hr.mono (by decide)
  have hrP : Room 1 _ := hr.mono (by decide)
  have hrD : Room 1 _ := hr.mono (by decide)
  have hrL : Room 14 _ := hr.mono (by decide)
  have hrS : Room 20 _ := hr.mono (by decide)
  have hrB : Room 85 _ := hr.mono (by decide)
  have hrR : Room 39 _ := hr.mono (by decide)
  have hrE : Room 21 _ := hr.mono (by decide)
  have hrN : Room 85 _ := hr.mono (by decide)
  have hrO : Room 2 _ := hr.mono (by decide)
  have hrV : Room 85 _ := hr.mono (by decide)
  have hrW : Room 86 _ := hr.mono (by decide)
  refine ⟨_, pss_cons (ps_for PassesOwn.never rfl (pi_enum (by rfl) me (pa_cons (pe_op op_cat (pe_lst (pa_cons (pe_call GA hrA (by rfl) mA kA bA .nil pass0 (pa_cons (pv 0) (pa_cons (pe_int) (pa_nil)))) (pa_nil))) (pe_slice sl_list (pv 0) (po_some pe_int) (po_some pe_int))) pa_nil)) (pg_tup rfl (pgs_cons (pg_name (i := 1) scLaw.nd rfl (.inl rfl)) (pgs_cons (pg_name (i := 2) scLaw.nd rfl (.inl rfl)) pgs_nil))) (pss_cons (ps_set (i := 3) scLaw.nd rfl (.inl rfl) (pe_call GP hrP (by rfl) mP kP bP .nil pass0 (pa_cons (pv 2) (pa_cons (pv 1) (pa_nil)))))
    (pss_cons (ps_set (i := 4) scLaw.nd rfl (.inl rfl) (pe_call GL hrL (by rfl) mL kL bL .nil pass0 (pa_cons (pv 3) (pa_cons (pe_ix ix_list (pe_lst (pa_cons (pe_int) (pa_cons (pe_int) (pa_cons (pe_int) (pa_cons (pe_int) (pa_nil)))))) (pe_call GD hrD (by rfl) mD kD bD .nil pass0 (pa_cons (pv 3) (pa_cons (pe_int) (pa_nil)))) (fun _ _ => rfl)) (pa_cons (pe_lst (pa_cons (pe_int) (pa_nil))) (pa_nil))))))
    (pss_cons (ps_set (i := 5) scLaw.nd rfl (.inl rfl) (pe_call GS hrS (by rfl) mS kS bS .nil pass0 (pa_cons (pv 4) (pa_nil))))
    (pss_cons (ps_if (PW.pt (pw_or (pt_not (pt_val (pe_call GB hrB (by rfl) mB kB bB .nil pass0 (pa_cons (pv 5) (pa_cons (pv 4) (pa_nil)))))) (pw_or1 (pt_not (pt_val (pe_call GR hrR (by rfl) mR kR bR .nil pass0 (pa_cons (pe_call GE hrE (by rfl) mE kE bE .nil pass0 (pa_cons (pv 3) (pa_cons (pv 4) (pa_cons (pv 5) (pa_nil))))) (pa_nil)))))))) (pss_one (ps_ret pe_bl)) pss_nil)
    (pss_cons (ps_if (PW.pt (pw_or (pt_not (pt_val (pe_call GN hrN (by rfl) mN kN bN .nil pass0 (pa_cons (pe_call GO hrO (by rfl) mO kO bO .nil pass0 (pa_cons (pv 3) (pa_cons (pv 5) (pa_nil)))) (pa_nil))))) (pw_or1 (pt_not (pt_val (pe_call GN hrN (by rfl) mN kN bN .nil pass0 (pa_cons (pe_call GO hrO (by rfl) mO kO bO .nil pass0 (pa_cons (pv 3) (pa_cons (pv 5) (pa_nil)))) (pa_nil)))))))) (pss_one (ps_ret pe_bl)) pss_nil)
    (pss_one (ps_if (PW.pt (pw_and (pt_cmpR op_eq (pv 1) pe_int (nomark _)) (pw_and1 (PW.pt (pw_or (pt_not (pt_val (pe_call0 GV hrV (by rfl) mV kV bV .nil pass0))) (pw_or1 (pt_not (pt_val (pe_call GW hrW (by rfl) mW kW bW .nil pass0 (pa_cons (pv 3) (pa_nil))))))))))) (pss_one (ps_ret pe_bl)) pss_nil))))))))
    (pss_one (ps_ret pe_bl)), ?_⟩
  have big := big16
  obtain ⟨ms, ems, hms⟩ := cut_ints ns (some 1) (some 14)
  refine ⟨_, rfl, a, ns, rfl, hS, h63, fun c0 => ⟨by show 1 ≤ sizeLine; omega, fun z1 hz1 => ⟨_, rfl, _, rfl, _, rfl, a, _, rfl, (same_new hz1 _).seq hS, fun z2 hz2 => ?_⟩⟩⟩
  rw [ems]
  have n21 : z2 ≠ z1 := fun e => by
    rw [e, upd_same] at hz2
    cases hz2
  refine ⟨z1, z2, [.int c0], ms.map V.int, rfl, rfl, (upd_ne n21.symm).trans upd_same, upd_same, by rw [List.length_map]; show 1 + _ ≤ _; omega, fun z3 hz3 => ⟨z3, (c0 :: ms).map V.int, rfl, SqL.of upd_same, ?_⟩⟩
  refine for_it (walk_enum (K := K) (a := z3) (xs := (c0 :: ms).map V.int)) (fun i σ H' => ∃ o1 o2 o3 o4 o5 : Option V, σ = [some (.ref a), o1, o2, o3, o4, o5] ∧ H' z3 = some (.lst ((c0 :: ms).map V.int))) ⟨_, _, _, _, _, rfl, upd_same⟩ (fun i σ H' _ h => SqL.of (by obtain ⟨_, _, _, _, _, _, e⟩ := h; exact e)) ?_ ?_
  · rintro i x σ H3 H3' hi ⟨o1, o2, o3, o4, o5, rfl, ez⟩ ⟨T0, xk, xc, rfl, hT, rfl, ek, ec⟩
    cases ek
    rw [List.length_map, List.length_cons] at hi
    have ec : ((c0 :: ms).map V.int)[i]? = some xc := ec
    obtain ⟨c, rfl⟩ : ∃ c : Int, xc = .int c := by
      rw [List.getElem?_map] at ec
      cases e : (c0 :: ms)[i]? with
      | none =>
        rw [e] at ec
        cases ec
      | some c =>
        rw [e] at ec
        exact ⟨c, (Option.some.inj ec).symm⟩
    refine ⟨T0, _, rfl, SqT.of upd_same, rfl, _, _, rfl, _, _, rfl, rfl, ?_⟩
    have ez := same_new hT (.tup [.int (i : Nat), .int c]) z3 _ ez
    -- the purse
    refine ⟨_, rfl, _, rfl, c, i, rfl, by omega, by omega, fun p H5 S5 hp0 P5 => ?_⟩
    have hpz : z3 ≠ p := fun e => by
      rw [e, hp0] at ez
      cases ez
    have ez := S5 z3 _ ez
    -- the ladder
    refine ⟨_, rfl, by show 4 ≤ sizeLine; omega, fun y1 hy1 => ⟨_, rfl, p, 4, rfl, P5.same (same_new hy1 _), by decide, by decide, fun v H6 v0 v1 D6 => ?_⟩⟩
    have hy1p : y1 ≠ p := P5.ne hy1
    obtain ⟨n, an, n1, n12⟩ := menu12 v0 v1
    have ez := D6.1 z3 _ hpz (same_new hy1 _ z3 _ ez)
    refine ⟨y1, _, v, _, rfl, rfl, SqL.of (D6.1 y1 _ hy1p upd_same), an, by show 1 ≤ sizeLine; omega, fun la hla => ?_⟩
    have hlap : p ≠ la := (D6.2.ne hla).symm
    have hlz : z3 ≠ la := fun e => by
      rw [e, hla] at ez
      cases ez
    refine ⟨n, n12, p, la, 30, rfl, by omega, by omega, D6.2.same (same_new hla _), hlap, upd_same, by decide, by decide, fun vl l k' H8 B8 P8 L8 k0 lv nice hpar => ?_⟩
    have ez := B8 z3 _ hpz hlz (same_new hla _ z3 _ ez)
    have hp30 : l.parts ≤ 30 := by omega
    have hdl : l.deep ≤ 12 := Nat.le_trans nice.deep n12
    have g61 := gd_mono (by decide : 60 ≤ 61) l nice.gd
    have hlen := sh_len30 nice.gd (by omega)
    have hcnt : cnt (sh l) ≤ 30 := Nat.le_trans (c91_sh l) hp30
    -- its text
    refine ⟨_, rfl, vl, l, rfl, lv, by omega, by decide, g61, by omega, fun H9 S9 => ?_⟩
    -- there and back; bent
    refine ⟨_, rfl, _, rfl, vl, l, rfl, LV.gr (Same.gr S9) lv, nice.ok, nice.gd, by omega, hdl, fun H10 S10 => ⟨_, rfl, iteF ?_⟩⟩
    refine ⟨_, rfl, _, rfl, _, rfl, p, vl, l, rfl, P8.same (S9.trans S10), LV.gr (Same.gr (S9.trans S10)) lv, ⟨nice.ok, hdl, nice.gd⟩, hp30, fun t H11 rt tl D11 => ⟨t, rfl, by omega, rt, fun H12 S12 => ⟨_, rfl, iteF ?_⟩⟩⟩
    have ez := S12 z3 _ (D11.1 z3 _ hpz (S10 z3 _ (S9 z3 _ ez)))
    have P12 := D11.2.same S12
    -- with another sign, twice
    refine ⟨_, rfl, _, rfl, p, sh l, rfl, P12, by omega, fun t1 H13 tl1 tc1 D13 => ⟨t1, rfl, by omega, by omega, fun H14 S14 => ⟨_, rfl, iteF ?_⟩⟩⟩
    refine ⟨_, rfl, _, rfl, p, sh l, rfl, D13.2.same S14, by omega, fun t2 H15 tl2 tc2 D15 => ⟨t2, rfl, by omega, by omega, fun H16 S16 => ⟨_, rfl, iteF ?_⟩⟩⟩
    have ez := S16 z3 _ (D15.1 z3 _ hpz (S14 z3 _ (D13.1 z3 _ hpz ez)))
    have P16 := D15.2.same S16
    -- at the bounds
    refine ⟨_, rfl, rfl, _, rfl, ite2 (fun _ => ?_) (fun _ => iteF ⟨_, _, _, _, _, rfl, ez⟩)⟩
    refine ⟨rfl, fun H17 S17 => ⟨_, rfl, iteF ⟨_, rfl, p, rfl, P16.same S17, fun H18 D18 => ⟨_, rfl, iteF ⟨_, _, _, _, _, rfl, D18.1 z3 _ hpz (S17 z3 _ ez)⟩⟩⟩⟩⟩
  · rintro σ H3 ⟨o1, o2, o3, o4, o5, rfl, ez⟩
    exact q H3
end
end K11
/-! Qp -/
namespace K11
open PySem L2 Lad
theorem one_mk {K : PySem.W.Frag} {oa ob oc : Addr} {d1 d2 d3 : Option Addr} {n1 n2 n3 : Nat} {s1 s2 s3 : Array (Option Value)} {tk : Tok} (l1 : K.lookup oa = some ⟨.type "tuple", d1, .seq #[.ref ob] n1, s1⟩) (l2 : K.lookup ob = some ⟨.type "tuple", d2, .seq #[.ref oc, .int 1 tk] n2, s2⟩)
    (l3 : K.lookup oc = some ⟨.type "tuple", d3, .seq #[] n3, s3⟩) : ∀ H, LV K H (.ref oa) one := fun H =>
  ⟨oa, [.ref ob], rfl, .inr ⟨_, _, _, l1, rfl, rfl, by show 1 ≤ sizeLine; decide, .cons (show RelV (.ref ob) (.ref ob) from rfl) .nil⟩,
    LVs.cons (PV.mk' (ve := .ref oc) (.inr ⟨_, _, _, l2, rfl, rfl, by show 2 ≤ sizeLine; decide, .cons (show RelV (.ref oc) (.ref oc) from rfl) (.cons (show RelV (.int 1) (.int 1 tk) from ⟨tk, rfl⟩) .nil)⟩) (LV.nil (.inr ⟨_, _, _, l3, rfl, rfl, by show 0 ≤ sizeLine; decide, .nil⟩))) rfl⟩
section
variable {P : Program} {w : World} {K : PySem.W.Frag} {mg : Str → Option Value} {base : Heap}
theorem isLad_all {f g h j : Addr} {fd gd hd jd : FuncData} (F : Fun K "is_ladder" "is_ladder" sIsLad f fd) (bF : Binds K fd ["thing"] []) (mF : mg "is_ladder" = some (.ref f)) (G : Fun K "is_pair" "is_pair" sPair g gd) (bG : Binds K gd ["thing"] []) (mG : mg "is_pair" = some (.ref g))
    (GW : FnOk P w K mg base CX0 1 h hd ["thing", "low"] spWhole) (bW : Binds K hd ["thing", "low"] []) (kW : PySem.W.keepIn K (.ref h) = true) (mW : mg "is_whole" = some (.ref h))
    (GL : ∀ n : Nat, FnOk P w K mg base CX0 n j jd ["one", "other"] (spLess K n)) (bL : Binds K jd ["one", "other"] []) (kL : PySem.W.keepIn K (.ref j) = true) (mL : mg "is_less" = some (.ref j))
    (mi : mg "isinstance" = none) (mt : mg "tuple" = none) (ml : mg "len" = none) (ma : mg "all" = none) (mr : mg "range" = none) : ∀ n : Nat, FnOk P w K mg base CX0 (2 * n) f fd ["thing"] (spIsLad K n)
  | 0 => isLad_none
  | n + 1 => isLad_step F (ok_pair G (isLad_all F bF mF G bG mG GW bW kW mW GL bL kL mL mi mt ml ma mr n) bF F.kp mF GW bW kW mW mi mt ml) bG G.kp mG (GL n) bL kL mL mi mt ml ma mr
theorem show_all {f g oa : Addr} {fd gd : FuncData} (F : Fun K "show_ladder" "show_ladder" sShow f fd) (bF : Binds K fd ["ladder"] []) (mF : mg "show_ladder" = some (.ref f)) (G : Fun K "show_pair" "show_pair" sShowP g gd) (bG : Binds K gd ["exponent", "many"] []) (mG : mg "show_pair" = some (.ref g))
    (mO : mg "ONE" = some (.ref oa)) (hO : ∀ H, LV K H (.ref oa) one) (ms : mg "str" = none) : ∀ n : Nat, FnOk P w K mg base CX0 (2 * n) f fd ["ladder"] (spShow K n)
  | 0 => show_none
  | n + 1 => by
    refine show_step F ?_ bG G.kp mG
    cases n with
    | zero =>
      have no : ∀ vs H Q E, ¬ spShowP K 0 vs H Q E := fun vs H Q E h => by
        obtain ⟨_, _, _, _, _, h1, _⟩ := h
        omega
      exact ⟨fun vs H Q E h => absurd h (no vs H Q E), fun A outer s H args us vs Q E _ _ _ _ h => absurd h (no vs H Q E)⟩
    | succ n => exact ok_showP (Nat.succ_le_succ (Nat.zero_le n)) G (show_all F bF mF G bG mG mO hO ms (n + 1)) bF F.kp mF mO hO ms
theorem ladAt_all {f g e j C oa : Addr} {fd gd ed jd : FuncData} {uM : Value} (X : ErrT K mg C) (F : Fun K "ladder_at" "ladder_at" sLadAt f fd) (bF : Binds K fd ["text", "at", "under"] []) (mF : mg "ladder_at" = some (.ref f))
    (G : Fun K "pair_at" "pair_at" sPairAt g gd) (bG : Binds K gd ["text", "at", "under"] []) (mG : mg "pair_at" = some (.ref g)) (E : Fun K "exponent_at" "exponent_at" sExpAt e ed) (bE : Binds K ed ["text", "at", "under"] []) (mE : mg "exponent_at" = some (.ref e))
    (GM : FnOk P w K mg base (L2.CX P w) 1 j jd ["text", "at"] (spMany C)) (bM : Binds K jd ["text", "at"] []) (kM : PySem.W.keepIn K (.ref j) = true) (mM : mg "many_at" = some (.ref j))
    (mO : mg "ONE" = some (.ref oa)) (hO : ∀ H, LV K H (.ref oa) one) (mD : mg "MOST_DEEP" = some uM) (rD : RelV (.int 12) uM) (mT : mg "tuple" = none) : ∀ d : Nat, FnOk P w K mg base (L2.CX P w) (3 * d + 1) f fd ["text", "at", "under"] (spLadAt K C d)
  | 0 => ladAt_zero F X mD rD
  | d + 1 => ok_ladAt F X (ok_pairAt G (ok_expAt E X (ladAt_all X F bF mF G bG mG E bE mE GM bM kM mM mO hO mD rD mT d) bF F.kp mF mO hO) bE E.kp mE GM bM kM mM) bG G.kp mG mD rD mT
theorem lLad_all {f g h : Addr} {fd gd hd : FuncData} (F : Fun K "_law_ladder" "_law_ladder" sLLad f fd) (bF : Binds K fd ["_law_purse_here", "_law_under", "_law_left"] []) (mF : mg "_law_ladder" = some (.ref f))
    (GD : FnOk P w K mg base CX0 1 g gd ["_law_purse_here", "_law_many_here"] spDraw) (bD : Binds K gd ["_law_purse_here", "_law_many_here"] []) (kD : PySem.W.keepIn K (.ref g) = true) (mD : mg "_law_draw" = some (.ref g))
    (GM : FnOk P w K mg base CX0 2 h hd ["_law_purse_here"] spMuch) (bM : Binds K hd ["_law_purse_here"] []) (kM : PySem.W.keepIn K (.ref h) = true) (mM : mg "_law_many" = some (.ref h))
    (mr : mg "range" = none) (mT : mg "tuple" = none) (mS : mg "sorted" = none) : ∀ n : Nat, FnOk P w K mg base CX0 (n + 2) f fd ["_law_purse_here", "_law_under", "_law_left"] (spLLad K n)
  | 0 => lLad_none
  | n + 1 => lLad_step F (lLad_all F bF mF GD bD kD mD GM bM kM mM mr mT mS n) bF mF GD bD kD mD GM bM kM mM mr mT mS
/-- all of them, and the law -/
theorem all_ok {C CF oa f_is_whole f_is_less f_is_pair f_is_ladder f_parts f_deep f_show_pair f_show_ladder f_many_at f_exponent_at f_pair_at f_ladder_at f_read_ladder f__law_at f__law_purse f__law_draw f__law_many f__law_ladder f__law_alike f__law_is_ladder f__law_shown f__law_size f__law_bent f__law_other_sign f__law_refused f__law_number_at f__law_pair_at f__law_pairs_at f__law_due f__law_read_or_not f__law_there_and_back f__law_never f__law_at_bounds c0 c1 c2 c3 c4 c5 c6 c7 c8 c9 c10 c11 c12 c13 c14 c15 c16 c17 : Addr} {d_is_whole d_is_less d_is_pair d_is_ladder d_parts d_deep d_show_pair d_show_ladder d_many_at d_exponent_at d_pair_at d_ladder_at d_read_ladder d__law_at d__law_purse d__law_draw d__law_many d__law_ladder d__law_alike d__law_is_ladder d__law_shown d__law_size d__law_bent d__law_other_sign d__law_refused d__law_number_at d__law_pair_at d__law_pairs_at d__law_due d__law_read_or_not d__law_there_and_back d__law_never d__law_at_bounds : FuncData} {uF uM uP uD : Value}
    (F_is_whole : Fun K "is_whole" "is_whole" sWhole f_is_whole d_is_whole) (m_is_whole : mg "is_whole" = some (.ref f_is_whole))
    (F_is_less : Fun K "is_less" "is_less" sLess f_is_less d_is_less) (m_is_less : mg "is_less" = some (.ref f_is_less))
    (F_is_pair : Fun K "is_pair" "is_pair" sPair f_is_pair d_is_pair) (m_is_pair : mg "is_pair" = some (.ref f_is_pair))
    (F_is_ladder : Fun K "is_ladder" "is_ladder" sIsLad f_is_ladder d_is_ladder) (m_is_ladder : mg "is_ladder" = some (.ref f_is_ladder))
    (F_parts : Fun K "parts" "parts" sParts f_parts d_parts) (m_parts : mg "parts" = some (.ref f_parts))
    (F_deep : Fun K "deep" "deep" sDeep f_deep d_deep) (m_deep : mg "deep" = some (.ref f_deep))
    (F_show_pair : Fun K "show_pair" "show_pair" sShowP f_show_pair d_show_pair) (m_show_pair : mg "show_pair" = some (.ref f_show_pair))
    (F_show_ladder : Fun K "show_ladder" "show_ladder" sShow f_show_ladder d_show_ladder) (m_show_ladder : mg "show_ladder" = some (.ref f_show_ladder))
    (F_many_at : Fun K "many_at" "many_at" sMany f_many_at d_many_at) (m_many_at : mg "many_at" = some (.ref f_many_at))
    (F_exponent_at : Fun K "exponent_at" "exponent_at" sExpAt f_exponent_at d_exponent_at) (m_exponent_at : mg "exponent_at" = some (.ref f_exponent_at))
    (F_pair_at : Fun K "pair_at" "pair_at" sPairAt f_pair_at d_pair_at) (m_pair_at : mg "pair_at" = some (.ref f_pair_at))
    (F_ladder_at : Fun K "ladder_at" "ladder_at" sLadAt f_ladder_at d_ladder_at) (m_ladder_at : mg "ladder_at" = some (.ref f_ladder_at))
    (F_read_ladder : Fun K "read_ladder" "read_ladder" sRead f_read_ladder d_read_ladder) (m_read_ladder : mg "read_ladder" = some (.ref f_read_ladder))
    (F__law_at : Fun K "_law_at" "_law_at" sLawAt f__law_at d__law_at) (m__law_at : mg "_law_at" = some (.ref f__law_at))
    (F__law_purse : Fun K "_law_purse" "_law_purse" sPurse f__law_purse d__law_purse) (m__law_purse : mg "_law_purse" = some (.ref f__law_purse))
    (F__law_draw : Fun K "_law_draw" "_law_draw" sDraw f__law_draw d__law_draw) (m__law_draw : mg "_law_draw" = some (.ref f__law_draw))
    (F__law_many : Fun K "_law_many" "_law_many" sMuch f__law_many d__law_many) (m__law_many : mg "_law_many" = some (.ref f__law_many))
    (F__law_ladder : Fun K "_law_ladder" "_law_ladder" sLLad f__law_ladder d__law_ladder) (m__law_ladder : mg "_law_ladder" = some (.ref f__law_ladder))
    (F__law_alike : Fun K "_law_alike" "_law_alike" sAlike f__law_alike d__law_alike) (m__law_alike : mg "_law_alike" = some (.ref f__law_alike))
    (F__law_is_ladder : Fun K "_law_is_ladder" "_law_is_ladder" sLIs f__law_is_ladder d__law_is_ladder) (m__law_is_ladder : mg "_law_is_ladder" = some (.ref f__law_is_ladder))
    (F__law_shown : Fun K "_law_shown" "_law_shown" sLShown f__law_shown d__law_shown) (m__law_shown : mg "_law_shown" = some (.ref f__law_shown))
    (F__law_size : Fun K "_law_size" "_law_size" sLSize f__law_size d__law_size) (m__law_size : mg "_law_size" = some (.ref f__law_size))
    (F__law_bent : Fun K "_law_bent" "_law_bent" sBent f__law_bent d__law_bent) (m__law_bent : mg "_law_bent" = some (.ref f__law_bent))
    (F__law_other_sign : Fun K "_law_other_sign" "_law_other_sign" sOther f__law_other_sign d__law_other_sign) (m__law_other_sign : mg "_law_other_sign" = some (.ref f__law_other_sign))
    (F__law_refused : Fun K "_law_refused" "_law_refused" sRef f__law_refused d__law_refused) (m__law_refused : mg "_law_refused" = some (.ref f__law_refused))
    (F__law_number_at : Fun K "_law_number_at" "_law_number_at" sLNum f__law_number_at d__law_number_at) (m__law_number_at : mg "_law_number_at" = some (.ref f__law_number_at))
    (F__law_pair_at : Fun K "_law_pair_at" "_law_pair_at" sLPair f__law_pair_at d__law_pair_at) (m__law_pair_at : mg "_law_pair_at" = some (.ref f__law_pair_at))
    (F__law_pairs_at : Fun K "_law_pairs_at" "_law_pairs_at" sLPairs f__law_pairs_at d__law_pairs_at) (m__law_pairs_at : mg "_law_pairs_at" = some (.ref f__law_pairs_at))
    (F__law_due : Fun K "_law_due" "_law_due" sDue f__law_due d__law_due) (m__law_due : mg "_law_due" = some (.ref f__law_due))
    (F__law_read_or_not : Fun K "_law_read_or_not" "_law_read_or_not" sROrN f__law_read_or_not d__law_read_or_not) (m__law_read_or_not : mg "_law_read_or_not" = some (.ref f__law_read_or_not))
    (F__law_there_and_back : Fun K "_law_there_and_back" "_law_there_and_back" sTB f__law_there_and_back d__law_there_and_back) (m__law_there_and_back : mg "_law_there_and_back" = some (.ref f__law_there_and_back))
    (F__law_never : Fun K "_law_never" "_law_never" sNever f__law_never d__law_never) (m__law_never : mg "_law_never" = some (.ref f__law_never))
    (F__law_at_bounds : Fun K "_law_at_bounds" "_law_at_bounds" sBnd f__law_at_bounds d__law_at_bounds) (m__law_at_bounds : mg "_law_at_bounds" = some (.ref f__law_at_bounds))
    (X : ErrT K mg C) (M : ErrM K mg C CF)
    (o0 : OthT K mg C "NoRest" c0) (o1 : OthT K mg C "NoGrove" c1) (o2 : OthT K mg C "NoPlace" c2) (o3 : OthT K mg C "NoBook" c3) (o4 : OthT K mg C "NoKind" c4) (o5 : OthT K mg C "NoRule" c5) (o6 : OthT K mg C "NoNumber" c6) (o7 : OthT K mg C "TooGreat" c7) (o8 : OthT K mg C "NoRise" c8) (o9 : OthT K mg C "NoFall" c9) (o10 : OthT K mg C "Endless" c10) (o11 : OthT K mg C "NotEndless" c11) (o12 : OthT K mg C "NoWorths" c12) (o13 : OthT K mg C "NoDrop" c13) (o14 : OthT K mg C "NoReach" c14) (o15 : OthT K mg C "TooLong" c15) (o16 : OthT K mg C "NoRow" c16) (o17 : OthT K mg C "NoName" c17)
    (mO : mg "ONE" = some (.ref oa)) (hO : ∀ H, LV K H (.ref oa) one)
    (mFi : mg "FIGURES" = some uF) (rF : RelV (.str "0123456789") uF) (mMF : mg "MOST_FIGURES" = some uM) (rM : RelV (.int 60) uM) (mMP : mg "MOST_PARTS" = some uP) (rP : RelV (.int 60) uP) (mMD : mg "MOST_DEEP" = some uD) (rD : RelV (.int 12) uD)
    (z_isinstance : mg "isinstance" = none) (z_int : mg "int" = none) (z_bool : mg "bool" = none) (z_zip : mg "zip" = none) (z_len : mg "len" = none) (z_tuple : mg "tuple" = none) (z_all : mg "all" = none) (z_range : mg "range" = none) (z_sum : mg "sum" = none) (z_max : mg "max" = none) (z_str : mg "str" = none) (z_sorted : mg "sorted" = none) (z_abs : mg "abs" = none) (z_enumerate : mg "enumerate" = none) (z_ValueError : mg "ValueError" = none)
    {f : Addr} {fd : FuncData} (F : Fun K "law" "law" sLaw f fd) : FnOk P w K mg base CX0 87 f fd ["_law_script"] (spLaw K) := by
  have b_is_whole := F_is_whole.binds (ps := ["thing", "low"]) fun _ _ _ _ _ _ us hl => match us, hl with | [_, _], _ => rfl
  have b_is_less := F_is_less.binds (ps := ["one", "other"]) fun _ _ _ _ _ _ us hl => match us, hl with | [_, _], _ => rfl
  have b_is_pair := F_is_pair.binds (ps := ["thing"]) fun _ _ _ _ _ _ us hl => match us, hl with | [_], _ => rfl
  have b_is_ladder := F_is_ladder.binds (ps := ["thing"]) fun _ _ _ _ _ _ us hl => match us, hl with | [_], _ => rfl
  have b_parts := F_parts.binds (ps := ["ladder"]) fun _ _ _ _ _ _ us hl => match us, hl with | [_], _ => rfl
  have b_deep := F_deep.binds (ps := ["ladder"]) fun _ _ _ _ _ _ us hl => match us, hl with | [_], _ => rfl
  have b_show_pair := F_show_pair.binds (ps := ["exponent", "many"]) fun _ _ _ _ _ _ us hl => match us, hl with | [_, _], _ => rfl
  have b_show_ladder := F_show_ladder.binds (ps := ["ladder"]) fun _ _ _ _ _ _ us hl => match us, hl with | [_], _ => rfl
  have b_many_at := F_many_at.binds (ps := ["text", "at"]) fun _ _ _ _ _ _ us hl => match us, hl with | [_, _], _ => rfl
  have b_exponent_at := F_exponent_at.binds (ps := ["text", "at", "under"]) fun _ _ _ _ _ _ us hl => match us, hl with | [_, _, _], _ => rfl
  have b_pair_at := F_pair_at.binds (ps := ["text", "at", "under"]) fun _ _ _ _ _ _ us hl => match us, hl with | [_, _, _], _ => rfl
  have b_ladder_at := F_ladder_at.binds (ps := ["text", "at", "under"]) fun _ _ _ _ _ _ us hl => match us, hl with | [_, _, _], _ => rfl
  have b_read_ladder := F_read_ladder.binds (ps := ["text"]) fun _ _ _ _ _ _ us hl => match us, hl with | [_], _ => rfl
  have b__law_at := F__law_at.binds (ps := ["_law_script", "_law_k"]) fun _ _ _ _ _ _ us hl => match us, hl with | [_, _], _ => rfl
  have b__law_purse := F__law_purse.binds (ps := ["_law_cell", "_law_salt"]) fun _ _ _ _ _ _ us hl => match us, hl with | [_, _], _ => rfl
  have b__law_draw := F__law_draw.binds (ps := ["_law_purse_here", "_law_many_here"]) fun _ _ _ _ _ _ us hl => match us, hl with | [_, _], _ => rfl
  have b__law_many := F__law_many.binds (ps := ["_law_purse_here"]) fun _ _ _ _ _ _ us hl => match us, hl with | [_], _ => rfl
  have b__law_ladder := F__law_ladder.binds (ps := ["_law_purse_here", "_law_under", "_law_left"]) fun _ _ _ _ _ _ us hl => match us, hl with | [_, _, _], _ => rfl
  have b__law_alike := F__law_alike.binds (ps := ["_law_found", "_law_due_here"]) fun _ _ _ _ _ _ us hl => match us, hl with | [_, _], _ => rfl
  have b__law_is_ladder := F__law_is_ladder.binds (ps := ["_law_thing"]) fun _ _ _ _ _ _ us hl => match us, hl with | [_], _ => rfl
  have b__law_shown := F__law_shown.binds (ps := ["_law_ladder_here"]) fun _ _ _ _ _ _ us hl => match us, hl with | [_], _ => rfl
  have b__law_size := F__law_size.binds (ps := ["_law_ladder_here"]) fun _ _ _ _ _ _ us hl => match us, hl with | [_], _ => rfl
  have b__law_bent := F__law_bent.binds (ps := ["_law_purse_here", "_law_ladder_here", "_law_text"]) fun _ _ _ _ _ _ us hl => match us, hl with | [_, _, _], _ => rfl
  have b__law_other_sign := F__law_other_sign.binds (ps := ["_law_purse_here", "_law_text"]) fun _ _ _ _ _ _ us hl => match us, hl with | [_, _], _ => rfl
  have b__law_refused := F__law_refused.binds (ps := ["_law_text"]) fun _ _ _ _ _ _ us hl => match us, hl with | [_], _ => rfl
  have b__law_number_at := F__law_number_at.binds (ps := ["_law_text", "_law_at_here"]) fun _ _ _ _ _ _ us hl => match us, hl with | [_, _], _ => rfl
  have b__law_pair_at := F__law_pair_at.binds (ps := ["_law_text", "_law_at_here"]) fun _ _ _ _ _ _ us hl => match us, hl with | [_, _], _ => rfl
  have b__law_pairs_at := F__law_pairs_at.binds (ps := ["_law_text", "_law_at_here"]) fun _ _ _ _ _ _ us hl => match us, hl with | [_, _], _ => rfl
  have b__law_due := F__law_due.binds (ps := ["_law_text"]) fun _ _ _ _ _ _ us hl => match us, hl with | [_], _ => rfl
  have b__law_read_or_not := F__law_read_or_not.binds (ps := ["_law_text"]) fun _ _ _ _ _ _ us hl => match us, hl with | [_], _ => rfl
  have b__law_there_and_back := F__law_there_and_back.binds (ps := ["_law_text", "_law_ladder_here"]) fun _ _ _ _ _ _ us hl => match us, hl with | [_, _], _ => rfl
  have b__law_never := F__law_never.binds (ps := []) fun _ _ _ _ _ _ us hl => match us, hl with | [], _ => rfl
  have b__law_at_bounds := F__law_at_bounds.binds (ps := ["_law_purse_here"]) fun _ _ _ _ _ _ us hl => match us, hl with | [_], _ => rfl
  have g_whole : FnOk P w K mg base CX0 1 _ _ _ _ := ok_whole F_is_whole z_isinstance z_int z_bool
  have g_less := ok_less (P := P) (w := w) (base := base) F_is_less b_is_less m_is_less z_zip z_len
  have g_isLad := isLad_all F_is_ladder b_is_ladder m_is_ladder F_is_pair b_is_pair m_is_pair g_whole b_is_whole F_is_whole.kp m_is_whole g_less b_is_less F_is_less.kp m_is_less z_isinstance z_tuple z_len z_all z_range 15
  have g_parts := ok_parts (P := P) (w := w) (base := base) F_parts b_parts m_parts z_sum 15
  have g_deep := ok_deep (P := P) (w := w) (base := base) F_deep b_deep m_deep z_max 15
  have g_show := show_all (P := P) (w := w) (base := base) F_show_ladder b_show_ladder m_show_ladder F_show_pair b_show_pair m_show_pair mO hO z_str 15
  have g_many := ok_many (P := P) (w := w) (base := base) F_many_at X z_len z_int mFi rF mMF rM
  have g_ladAt := ladAt_all X F_ladder_at b_ladder_at m_ladder_at F_pair_at b_pair_at m_pair_at F_exponent_at b_exponent_at m_exponent_at g_many b_many_at F_many_at.kp m_many_at mO hO mMD rD z_tuple 12
  have g_read := ok_read F_read_ladder X g_ladAt b_ladder_at F_ladder_at.kp m_ladder_at g_isLad b_is_ladder F_is_ladder.kp m_is_ladder g_show b_show_ladder F_show_ladder.kp m_show_ladder g_parts b_parts F_parts.kp m_parts g_deep b_deep F_deep.kp m_deep z_len mMP rP mMD rD
  have g_at := ok_lawAt (P := P) (w := w) (base := base) F__law_at z_len
  have g_purse := ok_purse (P := P) (w := w) (base := base) F__law_purse z_abs
  have g_draw := ok_draw (P := P) (w := w) (mg := mg) (base := base) F__law_draw
  have g_much := ok_much F__law_many g_draw b__law_draw F__law_draw.kp m__law_draw z_range z_max
  have g_lad := llad_u (lLad_all F__law_ladder b__law_ladder m__law_ladder g_draw b__law_draw F__law_draw.kp m__law_draw g_much b__law_many F__law_many.kp m__law_many z_range z_tuple z_sorted)
  have g_alike := ok_alike (P := P) (w := w) (base := base) F__law_alike b__law_alike m__law_alike z_isinstance z_tuple z_int z_bool z_len z_all z_zip 50
  have g_lIs := ok_lIs (P := P) (w := w) (base := base) F__law_is_ladder b__law_is_ladder m__law_is_ladder z_isinstance z_tuple z_int z_bool z_len z_all z_range 50
  have g_shown := ok_lShown (P := P) (w := w) (base := base) F__law_shown b__law_shown m__law_shown z_str
  have g_size := ok_lSize (P := P) (w := w) (base := base) F__law_size b__law_size m__law_size z_max 50
  have g_bent := ok_bent F__law_bent g_draw b__law_draw F__law_draw.kp m__law_draw (g_shown 20) b__law_shown F__law_shown.kp m__law_shown z_int z_len
  have g_other := ok_other F__law_other_sign g_draw b__law_draw F__law_draw.kp m__law_draw z_len
  have g_ref := ok_ref F__law_refused X M o0 o1 o2 o3 o4 o5 o6 o7 o8 o9 o10 o11 o12 o13 o14 o15 o16 o17 g_read b_read_ladder F_read_ladder.kp m_read_ladder z_isinstance z_ValueError
  have g_num := ok_lNum (P := P) (w := w) (base := base) F__law_number_at z_len z_int
  have g_pairs := lPairs_all F__law_pairs_at b__law_pairs_at m__law_pairs_at F__law_pair_at b__law_pair_at m__law_pair_at g_num b__law_number_at F__law_number_at.kp m__law_number_at z_tuple 41
  have g_due := ok_due F__law_due g_pairs b__law_pairs_at F__law_pairs_at.kp m__law_pairs_at g_lIs b__law_is_ladder F__law_is_ladder.kp m__law_is_ladder (g_shown 50) b__law_shown F__law_shown.kp m__law_shown g_size b__law_size F__law_size.kp m__law_size z_len
  have g_ron := ok_rOrN F__law_read_or_not g_due b__law_due F__law_due.kp m__law_due g_ref b__law_refused F__law_refused.kp m__law_refused g_alike b__law_alike F__law_alike.kp m__law_alike g_read b_read_ladder F_read_ladder.kp m_read_ladder
  have g_tb := ok_tb F__law_there_and_back g_show b_show_ladder F_show_ladder.kp m_show_ladder g_alike b__law_alike F__law_alike.kp m__law_alike g_read b_read_ladder F_read_ladder.kp m_read_ladder z_isinstance z_str
  have g_never := ok_never F__law_never g_ref b__law_refused F__law_refused.kp m__law_refused z_all
  have g_bnd := ok_bnd F__law_at_bounds g_draw b__law_draw F__law_draw.kp m__law_draw (g_shown 50) b__law_shown F__law_shown.kp m__law_shown g_tb b__law_there_and_back F__law_there_and_back.kp m__law_there_and_back g_ref b__law_refused F__law_refused.kp m__law_refused z_range z_tuple
  exact ok_law F g_at b__law_at F__law_at.kp m__law_at g_purse b__law_purse F__law_purse.kp m__law_purse g_draw b__law_draw F__law_draw.kp m__law_draw g_lad b__law_ladder F__law_ladder.kp m__law_ladder (g_shown 20) b__law_shown F__law_shown.kp m__law_shown g_tb b__law_there_and_back F__law_there_and_back.kp m__law_there_and_back g_ref b__law_refused F__law_refused.kp m__law_refused g_bent b__law_bent F__law_bent.kp m__law_bent g_ron b__law_read_or_not F__law_read_or_not.kp m__law_read_or_not g_other b__law_other_sign F__law_other_sign.kp m__law_other_sign g_never b__law_never F__law_never.kp m__law_never g_bnd b__law_at_bounds F__law_at_bounds.kp m__law_at_bounds z_enumerate
end
end K11
/-! Qz -/
namespace K11
open PySem L2 Lad
theorem all_mk {l : PySem.W.OpenLaw} {w : World} {K : PySem.W.Frag} {h : Heap} {mg : Str → Option Value} {fa C CF oa ob oe f_is_whole f_is_less f_is_pair f_is_ladder f_parts f_deep f_show_pair f_show_ladder f_many_at f_exponent_at f_pair_at f_ladder_at f_read_ladder f__law_at f__law_purse f__law_draw f__law_many f__law_ladder f__law_alike f__law_is_ladder f__law_shown f__law_size f__law_bent f__law_other_sign f__law_refused f__law_number_at f__law_pair_at f__law_pairs_at f__law_due f__law_read_or_not f__law_there_and_back f__law_never f__law_at_bounds f_law c0 c1 c2 c3 c4 c5 c6 c7 c8 c9 c10 c11 c12 c13 c14 c15 c16 c17 : Addr} {v1 v2 v3 : Option Addr} {n1 n2 n3 : Nat} {r1 r2 r3 : Array (Option Value)} {tk tk1 tk2 tk3 tk4 : Tok}
    (X : K.In h) (G : h.Ns mainGlobals mg) (hfa : mg "law" = some (.ref fa))
    {oc_is_whole kV_is_whole dc_is_whole pm_is_whole cd_is_whole ct_is_whole : Value} {od_is_whole an_is_whole : Option Addr} {sl_is_whole : Array (Option Value)} (a_is_whole : PySem.W.nsIn K mainGlobals "is_whole" = some (some (.ref f_is_whole))) (l_is_whole : K.lookup f_is_whole = some ⟨oc_is_whole, od_is_whole, .func (PySem.W.fnOf "is_whole" "is_whole" (defArgs sWhole) (defBody sWhole) (defScope sWhole) .none kV_is_whole dc_is_whole pm_is_whole an_is_whole cd_is_whole ct_is_whole), sl_is_whole⟩) (q_is_whole : PySem.W.codeIn K cd_is_whole "is_whole" = true) (k_is_whole : PySem.W.keepIn K (.ref f_is_whole) = true)
    {oc_is_less kV_is_less dc_is_less pm_is_less cd_is_less ct_is_less : Value} {od_is_less an_is_less : Option Addr} {sl_is_less : Array (Option Value)} (a_is_less : PySem.W.nsIn K mainGlobals "is_less" = some (some (.ref f_is_less))) (l_is_less : K.lookup f_is_less = some ⟨oc_is_less, od_is_less, .func (PySem.W.fnOf "is_less" "is_less" (defArgs sLess) (defBody sLess) (defScope sLess) .none kV_is_less dc_is_less pm_is_less an_is_less cd_is_less ct_is_less), sl_is_less⟩) (q_is_less : PySem.W.codeIn K cd_is_less "is_less" = true) (k_is_less : PySem.W.keepIn K (.ref f_is_less) = true)
    {oc_is_pair kV_is_pair dc_is_pair pm_is_pair cd_is_pair ct_is_pair : Value} {od_is_pair an_is_pair : Option Addr} {sl_is_pair : Array (Option Value)} (a_is_pair : PySem.W.nsIn K mainGlobals "is_pair" = some (some (.ref f_is_pair))) (l_is_pair : K.lookup f_is_pair = some ⟨oc_is_pair, od_is_pair, .func (PySem.W.fnOf "is_pair" "is_pair" (defArgs sPair) (defBody sPair) (defScope sPair) .none kV_is_pair dc_is_pair pm_is_pair an_is_pair cd_is_pair ct_is_pair), sl_is_pair⟩) (q_is_pair : PySem.W.codeIn K cd_is_pair "is_pair" = true) (k_is_pair : PySem.W.keepIn K (.ref f_is_pair) = true)
    {oc_is_ladder kV_is_ladder dc_is_ladder pm_is_ladder cd_is_ladder ct_is_ladder : Value} {od_is_ladder an_is_ladder : Option Addr} {sl_is_ladder : Array (Option Value)} (a_is_ladder : PySem.W.nsIn K mainGlobals "is_ladder" = some (some (.ref f_is_ladder))) (l_is_ladder : K.lookup f_is_ladder = some ⟨oc_is_ladder, od_is_ladder, .func (PySem.W.fnOf "is_ladder" "is_ladder" (defArgs sIsLad) (defBody sIsLad) (defScope sIsLad) .none kV_is_ladder dc_is_ladder pm_is_ladder an_is_ladder cd_is_ladder ct_is_ladder), sl_is_ladder⟩) (q_is_ladder : PySem.W.codeIn K cd_is_ladder "is_ladder" = true) (k_is_ladder : PySem.W.keepIn K (.ref f_is_ladder) = true)
    {oc_parts kV_parts dc_parts pm_parts cd_parts ct_parts : Value} {od_parts an_parts : Option Addr} {sl_parts : Array (Option Value)} (a_parts : PySem.W.nsIn K mainGlobals "parts" = some (some (.ref f_parts))) (l_parts : K.lookup f_parts = some ⟨oc_parts, od_parts, .func (PySem.W.fnOf "parts" "parts" (defArgs sParts) (defBody sParts) (defScope sParts) .none kV_parts dc_parts pm_parts an_parts cd_parts ct_parts), sl_parts⟩) (q_parts : PySem.W.codeIn K cd_parts "parts" = true) (k_parts : PySem.W.keepIn K (.ref f_parts) = true)
    {oc_deep kV_deep dc_deep pm_deep cd_deep ct_deep : Value} {od_deep an_deep : Option Addr} {sl_deep : Array (Option Value)} (a_deep : PySem.W.nsIn K mainGlobals "deep" = some (some (.ref f_deep))) (l_deep : K.lookup f_deep = some ⟨oc_deep, od_deep, .func (PySem.W.fnOf "deep" "deep" (defArgs sDeep) (defBody sDeep) (defScope sDeep) .none kV_deep dc_deep pm_deep an_deep cd_deep ct_deep), sl_deep⟩) (q_deep : PySem.W.codeIn K cd_deep "deep" = true) (k_deep : PySem.W.keepIn K (.ref f_deep) = true)
    {oc_show_pair kV_show_pair dc_show_pair pm_show_pair cd_show_pair ct_show_pair : Value} {od_show_pair an_show_pair : Option Addr} {sl_show_pair : Array (Option Value)} (a_show_pair : PySem.W.nsIn K mainGlobals "show_pair" = some (some (.ref f_show_pair))) (l_show_pair : K.lookup f_show_pair = some ⟨oc_show_pair, od_show_pair, .func (PySem.W.fnOf "show_pair" "show_pair" (defArgs sShowP) (defBody sShowP) (defScope sShowP) .none kV_show_pair dc_show_pair pm_show_pair an_show_pair cd_show_pair ct_show_pair), sl_show_pair⟩) (q_show_pair : PySem.W.codeIn K cd_show_pair "show_pair" = true) (k_show_pair : PySem.W.keepIn K (.ref f_show_pair) = true)
    {oc_show_ladder kV_show_ladder dc_show_ladder pm_show_ladder cd_show_ladder ct_show_ladder : Value} {od_show_ladder an_show_ladder : Option Addr} {sl_show_ladder : Array (Option Value)} (a_show_ladder : PySem.W.nsIn K mainGlobals "show_ladder" = some (some (.ref f_show_ladder))) (l_show_ladder : K.lookup f_show_ladder = some ⟨oc_show_ladder, od_show_ladder, .func (PySem.W.fnOf "show_ladder" "show_ladder" (defArgs sShow) (defBody sShow) (defScope sShow) .none kV_show_ladder dc_show_ladder pm_show_ladder an_show_ladder cd_show_ladder ct_show_ladder), sl_show_ladder⟩) (q_show_ladder : PySem.W.codeIn K cd_show_ladder "show_ladder" = true) (k_show_ladder : PySem.W.keepIn K (.ref f_show_ladder) = true)
    {oc_many_at kV_many_at dc_many_at pm_many_at cd_many_at ct_many_at : Value} {od_many_at an_many_at : Option Addr} {sl_many_at : Array (Option Value)} (a_many_at : PySem.W.nsIn K mainGlobals "many_at" = some (some (.ref f_many_at))) (l_many_at : K.lookup f_many_at = some ⟨oc_many_at, od_many_at, .func (PySem.W.fnOf "many_at" "many_at" (defArgs sMany) (defBody sMany) (defScope sMany) .none kV_many_at dc_many_at pm_many_at an_many_at cd_many_at ct_many_at), sl_many_at⟩) (q_many_at : PySem.W.codeIn K cd_many_at "many_at" = true) (k_many_at : PySem.W.keepIn K (.ref f_many_at) = true)
    {oc_exponent_at kV_exponent_at dc_exponent_at pm_exponent_at cd_exponent_at ct_exponent_at : Value} {od_exponent_at an_exponent_at : Option Addr} {sl_exponent_at : Array (Option Value)} (a_exponent_at : PySem.W.nsIn K mainGlobals "exponent_at" = some (some (.ref f_exponent_at))) (l_exponent_at : K.lookup f_exponent_at = some ⟨oc_exponent_at, od_exponent_at, .func (PySem.W.fnOf "exponent_at" "exponent_at" (defArgs sExpAt) (defBody sExpAt) (defScope sExpAt) .none kV_exponent_at dc_exponent_at pm_exponent_at an_exponent_at cd_exponent_at ct_exponent_at), sl_exponent_at⟩) (q_exponent_at : PySem.W.codeIn K cd_exponent_at "exponent_at" = true) (k_exponent_at : PySem.W.keepIn K (.ref f_exponent_at) = true)
    {oc_pair_at kV_pair_at dc_pair_at pm_pair_at cd_pair_at ct_pair_at : Value} {od_pair_at an_pair_at : Option Addr} {sl_pair_at : Array (Option Value)} (a_pair_at : PySem.W.nsIn K mainGlobals "pair_at" = some (some (.ref f_pair_at))) (l_pair_at : K.lookup f_pair_at = some ⟨oc_pair_at, od_pair_at, .func (PySem.W.fnOf "pair_at" "pair_at" (defArgs sPairAt) (defBody sPairAt) (defScope sPairAt) .none kV_pair_at dc_pair_at pm_pair_at an_pair_at cd_pair_at ct_pair_at), sl_pair_at⟩) (q_pair_at : PySem.W.codeIn K cd_pair_at "pair_at" = true) (k_pair_at : PySem.W.keepIn K (.ref f_pair_at) = true)
    {oc_ladder_at kV_ladder_at dc_ladder_at pm_ladder_at cd_ladder_at ct_ladder_at : Value} {od_ladder_at an_ladder_at : Option Addr} {sl_ladder_at : Array (Option Value)} (a_ladder_at : PySem.W.nsIn K mainGlobals "ladder_at" = some (some (.ref f_ladder_at))) (l_ladder_at : K.lookup f_ladder_at = some ⟨oc_ladder_at, od_ladder_at, .func (PySem.W.fnOf "ladder_at" "ladder_at" (defArgs sLadAt) (defBody sLadAt) (defScope sLadAt) .none kV_ladder_at dc_ladder_at pm_ladder_at an_ladder_at cd_ladder_at ct_ladder_at), sl_ladder_at⟩) (q_ladder_at : PySem.W.codeIn K cd_ladder_at "ladder_at" = true) (k_ladder_at : PySem.W.keepIn K (.ref f_ladder_at) = true)
    {oc_read_ladder kV_read_ladder dc_read_ladder pm_read_ladder cd_read_ladder ct_read_ladder : Value} {od_read_ladder an_read_ladder : Option Addr} {sl_read_ladder : Array (Option Value)} (a_read_ladder : PySem.W.nsIn K mainGlobals "read_ladder" = some (some (.ref f_read_ladder))) (l_read_ladder : K.lookup f_read_ladder = some ⟨oc_read_ladder, od_read_ladder, .func (PySem.W.fnOf "read_ladder" "read_ladder" (defArgs sRead) (defBody sRead) (defScope sRead) .none kV_read_ladder dc_read_ladder pm_read_ladder an_read_ladder cd_read_ladder ct_read_ladder), sl_read_ladder⟩) (q_read_ladder : PySem.W.codeIn K cd_read_ladder "read_ladder" = true) (k_read_ladder : PySem.W.keepIn K (.ref f_read_ladder) = true)
    {oc__law_at kV__law_at dc__law_at pm__law_at cd__law_at ct__law_at : Value} {od__law_at an__law_at : Option Addr} {sl__law_at : Array (Option Value)} (a__law_at : PySem.W.nsIn K mainGlobals "_law_at" = some (some (.ref f__law_at))) (l__law_at : K.lookup f__law_at = some ⟨oc__law_at, od__law_at, .func (PySem.W.fnOf "_law_at" "_law_at" (defArgs sLawAt) (defBody sLawAt) (defScope sLawAt) .none kV__law_at dc__law_at pm__law_at an__law_at cd__law_at ct__law_at), sl__law_at⟩) (q__law_at : PySem.W.codeIn K cd__law_at "_law_at" = true) (k__law_at : PySem.W.keepIn K (.ref f__law_at) = true)
    {oc__law_purse kV__law_purse dc__law_purse pm__law_purse cd__law_purse ct__law_purse : Value} {od__law_purse an__law_purse : Option Addr} {sl__law_purse : Array (Option Value)} (a__law_purse : PySem.W.nsIn K mainGlobals "_law_purse" = some (some (.ref f__law_purse))) (l__law_purse : K.lookup f__law_purse = some ⟨oc__law_purse, od__law_purse, .func (PySem.W.fnOf "_law_purse" "_law_purse" (defArgs sPurse) (defBody sPurse) (defScope sPurse) .none kV__law_purse dc__law_purse pm__law_purse an__law_purse cd__law_purse ct__law_purse), sl__law_purse⟩) (q__law_purse : PySem.W.codeIn K cd__law_purse "_law_purse" = true) (k__law_purse : PySem.W.keepIn K (.ref f__law_purse) = true)
    {oc__law_draw kV__law_draw dc__law_draw pm__law_draw cd__law_draw ct__law_draw : Value} {od__law_draw an__law_draw : Option Addr} {sl__law_draw : Array (Option Value)} (a__law_draw : PySem.W.nsIn K mainGlobals "_law_draw" = some (some (.ref f__law_draw))) (l__law_draw : K.lookup f__law_draw = some ⟨oc__law_draw, od__law_draw, .func (PySem.W.fnOf "_law_draw" "_law_draw" (defArgs sDraw) (defBody sDraw) (defScope sDraw) .none kV__law_draw dc__law_draw pm__law_draw an__law_draw cd__law_draw ct__law_draw), sl__law_draw⟩) (q__law_draw : PySem.W.codeIn K cd__law_draw "_law_draw" = true) (k__law_draw : PySem.W.keepIn K (.ref f__law_draw) = true)
    {oc__law_many kV__law_many dc__law_many pm__law_many cd__law_many ct__law_many : Value} {od__law_many an__law_many : Option Addr} {sl__law_many : Array (Option Value)} (a__law_many : PySem.W.nsIn K mainGlobals "_law_many" = some (some (.ref f__law_many))) (l__law_many : K.lookup f__law_many = some ⟨oc__law_many, od__law_many, .func (PySem.W.fnOf "_law_many" "_law_many" (defArgs sMuch) (defBody sMuch) (defScope sMuch) .none kV__law_many dc__law_many pm__law_many an__law_many cd__law_many ct__law_many), sl__law_many⟩) (q__law_many : PySem.W.codeIn K cd__law_many "_law_many" = true) (k__law_many : PySem.W.keepIn K (.ref f__law_many) = true)
    {oc__law_ladder kV__law_ladder dc__law_ladder pm__law_ladder cd__law_ladder ct__law_ladder : Value} {od__law_ladder an__law_ladder : Option Addr} {sl__law_ladder : Array (Option Value)} (a__law_ladder : PySem.W.nsIn K mainGlobals "_law_ladder" = some (some (.ref f__law_ladder))) (l__law_ladder : K.lookup f__law_ladder = some ⟨oc__law_ladder, od__law_ladder, .func (PySem.W.fnOf "_law_ladder" "_law_ladder" (defArgs sLLad) (defBody sLLad) (defScope sLLad) .none kV__law_ladder dc__law_ladder pm__law_ladder an__law_ladder cd__law_ladder ct__law_ladder), sl__law_ladder⟩) (q__law_ladder : PySem.W.codeIn K cd__law_ladder "_law_ladder" = true) (k__law_ladder : PySem.W.keepIn K (.ref f__law_ladder) = true)
    {oc__law_alike kV__law_alike dc__law_alike pm__law_alike cd__law_alike ct__law_alike : Value} {od__law_alike an__law_alike : Option Addr} {sl__law_alike : Array (Option Value)} (a__law_alike : PySem.W.nsIn K mainGlobals "_law_alike" = some (some (.ref f__law_alike))) (l__law_alike : K.lookup f__law_alike = some ⟨oc__law_alike, od__law_alike, .func (PySem.W.fnOf "_law_alike" "_law_alike" (defArgs sAlike) (defBody sAlike) (defScope sAlike) .none kV__law_alike dc__law_alike pm__law_alike an__law_alike cd__law_alike ct__law_alike), sl__law_alike⟩) (q__law_alike : PySem.W.codeIn K cd__law_alike "_law_alike" = true) (k__law_alike : PySem.W.keepIn K (.ref f__law_alike) = true)
    {oc__law_is_ladder kV__law_is_ladder dc__law_is_ladder pm__law_is_ladder cd__law_is_ladder ct__law_is_ladder : Value} {od__law_is_ladder an__law_is_ladder : Option Addr} {sl__law_is_ladder : Array (Option Value)} (a__law_is_ladder : PySem.W.nsIn K mainGlobals "_law_is_ladder" = some (some (.ref f__law_is_ladder))) (l__law_is_ladder : K.lookup f__law_is_ladder = some ⟨oc__law_is_ladder, od__law_is_ladder, .func (PySem.W.fnOf "_law_is_ladder" "_law_is_ladder" (defArgs sLIs) (defBody sLIs) (defScope sLIs) .none kV__law_is_ladder dc__law_is_ladder pm__law_is_ladder an__law_is_ladder cd__law_is_ladder ct__law_is_ladder), sl__law_is_ladder⟩) (q__law_is_ladder : PySem.W.codeIn K cd__law_is_ladder "_law_is_ladder" = true) (k__law_is_ladder : PySem.W.keepIn K (.ref f__law_is_ladder) = true)
    {oc__law_shown kV__law_shown dc__law_shown pm__law_shown cd__law_shown ct__law_shown : Value} {od__law_shown an__law_shown : Option Addr} {sl__law_shown : Array (Option Value)} (a__law_shown : PySem.W.nsIn K mainGlobals "_law_shown" = some (some (.ref f__law_shown))) (l__law_shown : K.lookup f__law_shown = some ⟨oc__law_shown, od__law_shown, .func (PySem.W.fnOf "_law_shown" "_law_shown" (defArgs sLShown) (defBody sLShown) (defScope sLShown) .none kV__law_shown dc__law_shown pm__law_shown an__law_shown cd__law_shown ct__law_shown), sl__law_shown⟩) (q__law_shown : PySem.W.codeIn K cd__law_shown "_law_shown" = true) (k__law_shown : PySem.W.keepIn K (.ref f__law_shown) = true)
    {oc__law_size kV__law_size dc__law_size pm__law_size cd__law_size ct__law_size : Value} {od__law_size an__law_size : Option Addr} {sl__law_size : Array (Option Value)} (a__law_size : PySem.W.nsIn K mainGlobals "_law_size" = some (some (.ref f__law_size))) (l__law_size : K.lookup f__law_size = some ⟨oc__law_size, od__law_size, .func (PySem.W.fnOf "_law_size" "_law_size" (defArgs sLSize) (defBody sLSize) (defScope sLSize) .none kV__law_size dc__law_size pm__law_size an__law_size cd__law_size ct__law_size), sl__law_size⟩) (q__law_size : PySem.W.codeIn K cd__law_size "_law_size" = true) (k__law_size : PySem.W.keepIn K (.ref f__law_size) = true)
    {oc__law_bent kV__law_bent dc__law_bent pm__law_bent cd__law_bent ct__law_bent : Value} {od__law_bent an__law_bent : Option Addr} {sl__law_bent : Array (Option Value)} (a__law_bent : PySem.W.nsIn K mainGlobals "_law_bent" = some (some (.ref f__law_bent))) (l__law_bent : K.lookup f__law_bent = some ⟨oc__law_bent, od__law_bent, .func (PySem.W.fnOf "_law_bent" "_law_bent" (defArgs sBent) (defBody sBent) (defScope sBent) .none kV__law_bent dc__law_bent pm__law_bent an__law_bent cd__law_bent ct__law_bent), sl__law_bent⟩) (q__law_bent : PySem.W.codeIn K cd__law_bent "_law_bent" = true) (k__law_bent : PySem.W.keepIn K (.ref f__law_bent) = true)
    {oc__law_other_sign kV__law_other_sign dc__law_other_sign pm__law_other_sign cd__law_other_sign ct__law_other_sign : Value} {od__law_other_sign an__law_other_sign : Option Addr} {sl__law_other_sign : Array (Option Value)} (a__law_other_sign : PySem.W.nsIn K mainGlobals "_law_other_sign" = some (some (.ref f__law_other_sign))) (l__law_other_sign : K.lookup f__law_other_sign = some ⟨oc__law_other_sign, od__law_other_sign, .func (PySem.W.fnOf "_law_other_sign" "_law_other_sign" (defArgs sOther) (defBody sOther) (defScope sOther) .none kV__law_other_sign dc__law_other_sign pm__law_other_sign an__law_other_sign cd__law_other_sign ct__law_other_sign), sl__law_other_sign⟩) (q__law_other_sign : PySem.W.codeIn K cd__law_other_sign "_law_other_sign" = true) (k__law_other_sign : PySem.W.keepIn K (.ref f__law_other_sign) = true)
    {oc__law_refused kV__law_refused dc__law_refused pm__law_refused cd__law_refused ct__law_refused : Value} {od__law_refused an__law_refused : Option Addr} {sl__law_refused : Array (Option Value)} (a__law_refused : PySem.W.nsIn K mainGlobals "_law_refused" = some (some (.ref f__law_refused))) (l__law_refused : K.lookup f__law_refused = some ⟨oc__law_refused, od__law_refused, .func (PySem.W.fnOf "_law_refused" "_law_refused" (defArgs sRef) (defBody sRef) (defScope sRef) .none kV__law_refused dc__law_refused pm__law_refused an__law_refused cd__law_refused ct__law_refused), sl__law_refused⟩) (q__law_refused : PySem.W.codeIn K cd__law_refused "_law_refused" = true) (k__law_refused : PySem.W.keepIn K (.ref f__law_refused) = true)
    {oc__law_number_at kV__law_number_at dc__law_number_at pm__law_number_at cd__law_number_at ct__law_number_at : Value} {od__law_number_at an__law_number_at : Option Addr} {sl__law_number_at : Array (Option Value)} (a__law_number_at : PySem.W.nsIn K mainGlobals "_law_number_at" = some (some (.ref f__law_number_at))) (l__law_number_at : K.lookup f__law_number_at = some ⟨oc__law_number_at, od__law_number_at, .func (PySem.W.fnOf "_law_number_at" "_law_number_at" (defArgs sLNum) (defBody sLNum) (defScope sLNum) .none kV__law_number_at dc__law_number_at pm__law_number_at an__law_number_at cd__law_number_at ct__law_number_at), sl__law_number_at⟩) (q__law_number_at : PySem.W.codeIn K cd__law_number_at "_law_number_at" = true) (k__law_number_at : PySem.W.keepIn K (.ref f__law_number_at) = true)
    {oc__law_pair_at kV__law_pair_at dc__law_pair_at pm__law_pair_at cd__law_pair_at ct__law_pair_at : Value} {od__law_pair_at an__law_pair_at : Option Addr} {sl__law_pair_at : Array (Option Value)} (a__law_pair_at : PySem.W.nsIn K mainGlobals "_law_pair_at" = some (some (.ref f__law_pair_at))) (l__law_pair_at : K.lookup f__law_pair_at = some ⟨oc__law_pair_at, od__law_pair_at, .func (PySem.W.fnOf "_law_pair_at" "_law_pair_at" (defArgs sLPair) (defBody sLPair) (defScope sLPair) .none kV__law_pair_at dc__law_pair_at pm__law_pair_at an__law_pair_at cd__law_pair_at ct__law_pair_at), sl__law_pair_at⟩) (q__law_pair_at : PySem.W.codeIn K cd__law_pair_at "_law_pair_at" = true) (k__law_pair_at : PySem.W.keepIn K (.ref f__law_pair_at) = true)
    {oc__law_pairs_at kV__law_pairs_at dc__law_pairs_at pm__law_pairs_at cd__law_pairs_at ct__law_pairs_at : Value} {od__law_pairs_at an__law_pairs_at : Option Addr} {sl__law_pairs_at : Array (Option Value)} (a__law_pairs_at : PySem.W.nsIn K mainGlobals "_law_pairs_at" = some (some (.ref f__law_pairs_at))) (l__law_pairs_at : K.lookup f__law_pairs_at = some ⟨oc__law_pairs_at, od__law_pairs_at, .func (PySem.W.fnOf "_law_pairs_at" "_law_pairs_at" (defArgs sLPairs) (defBody sLPairs) (defScope sLPairs) .none kV__law_pairs_at dc__law_pairs_at pm__law_pairs_at an__law_pairs_at cd__law_pairs_at ct__law_pairs_at), sl__law_pairs_at⟩) (q__law_pairs_at : PySem.W.codeIn K cd__law_pairs_at "_law_pairs_at" = true) (k__law_pairs_at : PySem.W.keepIn K (.ref f__law_pairs_at) = true)
    {oc__law_due kV__law_due dc__law_due pm__law_due cd__law_due ct__law_due : Value} {od__law_due an__law_due : Option Addr} {sl__law_due : Array (Option Value)} (a__law_due : PySem.W.nsIn K mainGlobals "_law_due" = some (some (.ref f__law_due))) (l__law_due : K.lookup f__law_due = some ⟨oc__law_due, od__law_due, .func (PySem.W.fnOf "_law_due" "_law_due" (defArgs sDue) (defBody sDue) (defScope sDue) .none kV__law_due dc__law_due pm__law_due an__law_due cd__law_due ct__law_due), sl__law_due⟩) (q__law_due : PySem.W.codeIn K cd__law_due "_law_due" = true) (k__law_due : PySem.W.keepIn K (.ref f__law_due) = true)
    {oc__law_read_or_not kV__law_read_or_not dc__law_read_or_not pm__law_read_or_not cd__law_read_or_not ct__law_read_or_not : Value} {od__law_read_or_not an__law_read_or_not : Option Addr} {sl__law_read_or_not : Array (Option Value)} (a__law_read_or_not : PySem.W.nsIn K mainGlobals "_law_read_or_not" = some (some (.ref f__law_read_or_not))) (l__law_read_or_not : K.lookup f__law_read_or_not = some ⟨oc__law_read_or_not, od__law_read_or_not, .func (PySem.W.fnOf "_law_read_or_not" "_law_read_or_not" (defArgs sROrN) (defBody sROrN) (defScope sROrN) .none kV__law_read_or_not dc__law_read_or_not pm__law_read_or_not an__law_read_or_not cd__law_read_or_not ct__law_read_or_not), sl__law_read_or_not⟩) (q__law_read_or_not : PySem.W.codeIn K cd__law_read_or_not "_law_read_or_not" = true) (k__law_read_or_not : PySem.W.keepIn K (.ref f__law_read_or_not) = true)
    {oc__law_there_and_back kV__law_there_and_back dc__law_there_and_back pm__law_there_and_back cd__law_there_and_back ct__law_there_and_back : Value} {od__law_there_and_back an__law_there_and_back : Option Addr} {sl__law_there_and_back : Array (Option Value)} (a__law_there_and_back : PySem.W.nsIn K mainGlobals "_law_there_and_back" = some (some (.ref f__law_there_and_back))) (l__law_there_and_back : K.lookup f__law_there_and_back = some ⟨oc__law_there_and_back, od__law_there_and_back, .func (PySem.W.fnOf "_law_there_and_back" "_law_there_and_back" (defArgs sTB) (defBody sTB) (defScope sTB) .none kV__law_there_and_back dc__law_there_and_back pm__law_there_and_back an__law_there_and_back cd__law_there_and_back ct__law_there_and_back), sl__law_there_and_back⟩) (q__law_there_and_back : PySem.W.codeIn K cd__law_there_and_back "_law_there_and_back" = true) (k__law_there_and_back : PySem.W.keepIn K (.ref f__law_there_and_back) = true)
    {oc__law_never kV__law_never dc__law_never pm__law_never cd__law_never ct__law_never : Value} {od__law_never an__law_never : Option Addr} {sl__law_never : Array (Option Value)} (a__law_never : PySem.W.nsIn K mainGlobals "_law_never" = some (some (.ref f__law_never))) (l__law_never : K.lookup f__law_never = some ⟨oc__law_never, od__law_never, .func (PySem.W.fnOf "_law_never" "_law_never" (defArgs sNever) (defBody sNever) (defScope sNever) .none kV__law_never dc__law_never pm__law_never an__law_never cd__law_never ct__law_never), sl__law_never⟩) (q__law_never : PySem.W.codeIn K cd__law_never "_law_never" = true) (k__law_never : PySem.W.keepIn K (.ref f__law_never) = true)
    {oc__law_at_bounds kV__law_at_bounds dc__law_at_bounds pm__law_at_bounds cd__law_at_bounds ct__law_at_bounds : Value} {od__law_at_bounds an__law_at_bounds : Option Addr} {sl__law_at_bounds : Array (Option Value)} (a__law_at_bounds : PySem.W.nsIn K mainGlobals "_law_at_bounds" = some (some (.ref f__law_at_bounds))) (l__law_at_bounds : K.lookup f__law_at_bounds = some ⟨oc__law_at_bounds, od__law_at_bounds, .func (PySem.W.fnOf "_law_at_bounds" "_law_at_bounds" (defArgs sBnd) (defBody sBnd) (defScope sBnd) .none kV__law_at_bounds dc__law_at_bounds pm__law_at_bounds an__law_at_bounds cd__law_at_bounds ct__law_at_bounds), sl__law_at_bounds⟩) (q__law_at_bounds : PySem.W.codeIn K cd__law_at_bounds "_law_at_bounds" = true) (k__law_at_bounds : PySem.W.keepIn K (.ref f__law_at_bounds) = true)
    {oc_law kV_law dc_law pm_law cd_law ct_law : Value} {od_law an_law : Option Addr} {sl_law : Array (Option Value)} (a_law : PySem.W.nsIn K mainGlobals "law" = some (some (.ref f_law))) (l_law : K.lookup f_law = some ⟨oc_law, od_law, .func (PySem.W.fnOf "law" "law" (defArgs sLaw) (defBody sLaw) (defScope sLaw) .none kV_law dc_law pm_law an_law cd_law ct_law), sl_law⟩) (q_law : PySem.W.codeIn K cd_law "law" = true) (k_law : PySem.W.keepIn K (.ref f_law) = true)
    (x1 : PySem.W.nsIn K mainGlobals "NoLadder" = some (some (.ref C))) (x2 : PySem.W.excIn K C [.type "ValueError", .type "Exception", .type "BaseException", .type "object"] "ValueError.__new__" = true) (x3 : PySem.W.keepIn K (.ref C) = true) (x4 : PySem.W.subIn K (.ref C) (.type "BaseException") = some true) (x5 : PySem.W.typeIn K (.ref C) = some (.type "type"))
    (y1 : PySem.W.subIn K (.ref C) (.ref C) = some true) (y2 : PySem.W.subIn K (.ref C) (.type "ValueError") = some true) (y3 : PySem.W.nsIn K mainGlobals "FellError" = some (some (.ref CF))) (y4 : PySem.W.subIn K (.ref CF) (.type "BaseException") = some true) (y5 : PySem.W.hasDictIn K CF = true) (y6 : PySem.W.typeIn K (.ref CF) = some (.type "type")) (y7 : PySem.W.subIn K (.ref C) (.ref CF) = some true)
    (e1 : PySem.W.findIn K (.ref C) "__getattribute__" = some (some (.builtin "BaseException.__getattribute__"))) (e2 : PySem.W.findIn K (.ref C) "__getattr__" = some none) (e3 : PySem.W.subIn K (.ref C) (.type "BaseException") = some true) (e4 : PySem.W.hasDictIn K C = true) (e5 : PySem.W.findIn K (.ref C) "__class__" = some (some (.builtin "object.__class__")))
    (e6 : PySem.W.specialIn K (.builtin "object.__class__") "__get__" = some (some (.builtin "getset_descriptor.__get__"))) (e7 : PySem.W.takesIn K (.builtin "object.__class__") = some true) (e8 : PySem.W.mroIn K C (.type "object") = some true)
    (g0 : PySem.W.nsIn K mainGlobals "NoRest" = some (some (.ref c0))) (s0 : PySem.W.subIn K (.ref C) (.ref c0) = some false) (i0 : PySem.W.isClsIn K c0 = true) (t0 : PySem.W.typeIn K (.ref c0) = some (.type "type"))
    (g1 : PySem.W.nsIn K mainGlobals "NoGrove" = some (some (.ref c1))) (s1 : PySem.W.subIn K (.ref C) (.ref c1) = some false) (i1 : PySem.W.isClsIn K c1 = true) (t1 : PySem.W.typeIn K (.ref c1) = some (.type "type"))
    (g2 : PySem.W.nsIn K mainGlobals "NoPlace" = some (some (.ref c2))) (s2 : PySem.W.subIn K (.ref C) (.ref c2) = some false) (i2 : PySem.W.isClsIn K c2 = true) (t2 : PySem.W.typeIn K (.ref c2) = some (.type "type"))
    (g3 : PySem.W.nsIn K mainGlobals "NoBook" = some (some (.ref c3))) (s3 : PySem.W.subIn K (.ref C) (.ref c3) = some false) (i3 : PySem.W.isClsIn K c3 = true) (t3 : PySem.W.typeIn K (.ref c3) = some (.type "type"))
    (g4 : PySem.W.nsIn K mainGlobals "NoKind" = some (some (.ref c4))) (s4 : PySem.W.subIn K (.ref C) (.ref c4) = some false) (i4 : PySem.W.isClsIn K c4 = true) (t4 : PySem.W.typeIn K (.ref c4) = some (.type "type"))
    (g5 : PySem.W.nsIn K mainGlobals "NoRule" = some (some (.ref c5))) (s5 : PySem.W.subIn K (.ref C) (.ref c5) = some false) (i5 : PySem.W.isClsIn K c5 = true) (t5 : PySem.W.typeIn K (.ref c5) = some (.type "type"))
    (g6 : PySem.W.nsIn K mainGlobals "NoNumber" = some (some (.ref c6))) (s6 : PySem.W.subIn K (.ref C) (.ref c6) = some false) (i6 : PySem.W.isClsIn K c6 = true) (t6 : PySem.W.typeIn K (.ref c6) = some (.type "type"))
    (g7 : PySem.W.nsIn K mainGlobals "TooGreat" = some (some (.ref c7))) (s7 : PySem.W.subIn K (.ref C) (.ref c7) = some false) (i7 : PySem.W.isClsIn K c7 = true) (t7 : PySem.W.typeIn K (.ref c7) = some (.type "type"))
    (g8 : PySem.W.nsIn K mainGlobals "NoRise" = some (some (.ref c8))) (s8 : PySem.W.subIn K (.ref C) (.ref c8) = some false) (i8 : PySem.W.isClsIn K c8 = true) (t8 : PySem.W.typeIn K (.ref c8) = some (.type "type"))
    (g9 : PySem.W.nsIn K mainGlobals "NoFall" = some (some (.ref c9))) (s9 : PySem.W.subIn K (.ref C) (.ref c9) = some false) (i9 : PySem.W.isClsIn K c9 = true) (t9 : PySem.W.typeIn K (.ref c9) = some (.type "type"))
    (g10 : PySem.W.nsIn K mainGlobals "Endless" = some (some (.ref c10))) (s10 : PySem.W.subIn K (.ref C) (.ref c10) = some false) (i10 : PySem.W.isClsIn K c10 = true) (t10 : PySem.W.typeIn K (.ref c10) = some (.type "type"))
    (g11 : PySem.W.nsIn K mainGlobals "NotEndless" = some (some (.ref c11))) (s11 : PySem.W.subIn K (.ref C) (.ref c11) = some false) (i11 : PySem.W.isClsIn K c11 = true) (t11 : PySem.W.typeIn K (.ref c11) = some (.type "type"))
    (g12 : PySem.W.nsIn K mainGlobals "NoWorths" = some (some (.ref c12))) (s12 : PySem.W.subIn K (.ref C) (.ref c12) = some false) (i12 : PySem.W.isClsIn K c12 = true) (t12 : PySem.W.typeIn K (.ref c12) = some (.type "type"))
    (g13 : PySem.W.nsIn K mainGlobals "NoDrop" = some (some (.ref c13))) (s13 : PySem.W.subIn K (.ref C) (.ref c13) = some false) (i13 : PySem.W.isClsIn K c13 = true) (t13 : PySem.W.typeIn K (.ref c13) = some (.type "type"))
    (g14 : PySem.W.nsIn K mainGlobals "NoReach" = some (some (.ref c14))) (s14 : PySem.W.subIn K (.ref C) (.ref c14) = some false) (i14 : PySem.W.isClsIn K c14 = true) (t14 : PySem.W.typeIn K (.ref c14) = some (.type "type"))
    (g15 : PySem.W.nsIn K mainGlobals "TooLong" = some (some (.ref c15))) (s15 : PySem.W.subIn K (.ref C) (.ref c15) = some false) (i15 : PySem.W.isClsIn K c15 = true) (t15 : PySem.W.typeIn K (.ref c15) = some (.type "type"))
    (g16 : PySem.W.nsIn K mainGlobals "NoRow" = some (some (.ref c16))) (s16 : PySem.W.subIn K (.ref C) (.ref c16) = some false) (i16 : PySem.W.isClsIn K c16 = true) (t16 : PySem.W.typeIn K (.ref c16) = some (.type "type"))
    (g17 : PySem.W.nsIn K mainGlobals "NoName" = some (some (.ref c17))) (s17 : PySem.W.subIn K (.ref C) (.ref c17) = some false) (i17 : PySem.W.isClsIn K c17 = true) (t17 : PySem.W.typeIn K (.ref c17) = some (.type "type"))
    (w1 : PySem.W.nsIn K mainGlobals "ONE" = some (some (.ref oa))) (w2 : K.lookup oa = some ⟨.type "tuple", v1, .seq #[.ref ob] n1, r1⟩) (w3 : K.lookup ob = some ⟨.type "tuple", v2, .seq #[.ref oe, .int 1 tk] n2, r2⟩) (w4 : K.lookup oe = some ⟨.type "tuple", v3, .seq #[] n3, r3⟩)
    (j1 : PySem.W.nsIn K mainGlobals "FIGURES" = some (some (.str "0123456789" tk1))) (j2 : PySem.W.nsIn K mainGlobals "MOST_FIGURES" = some (some (.int 60 tk2))) (j3 : PySem.W.nsIn K mainGlobals "MOST_PARTS" = some (some (.int 60 tk3))) (j4 : PySem.W.nsIn K mainGlobals "MOST_DEEP" = some (some (.int 12 tk4)))
    (z_isinstance : PySem.W.nsIn K mainGlobals "isinstance" = some none)
    (z_int : PySem.W.nsIn K mainGlobals "int" = some none)
    (z_bool : PySem.W.nsIn K mainGlobals "bool" = some none)
    (z_zip : PySem.W.nsIn K mainGlobals "zip" = some none)
    (z_len : PySem.W.nsIn K mainGlobals "len" = some none)
    (z_tuple : PySem.W.nsIn K mainGlobals "tuple" = some none)
    (z_all : PySem.W.nsIn K mainGlobals "all" = some none)
    (z_range : PySem.W.nsIn K mainGlobals "range" = some none)
    (z_sum : PySem.W.nsIn K mainGlobals "sum" = some none)
    (z_max : PySem.W.nsIn K mainGlobals "max" = some none)
    (z_str : PySem.W.nsIn K mainGlobals "str" = some none)
    (z_sorted : PySem.W.nsIn K mainGlobals "sorted" = some none)
    (z_abs : PySem.W.nsIn K mainGlobals "abs" = some none)
    (z_enumerate : PySem.W.nsIn K mainGlobals "enumerate" = some none)
    (z_ValueError : PySem.W.nsIn K mainGlobals "ValueError" = some none) :
    ∃ fd : FuncData, (∀ (s : Shared) (v : Value), BindsTo s fd ⟨[v], []⟩ [("_law_script", v)]) ∧ ∀ base : Heap, K.In base → base.Ns mainGlobals mg → FnOk l.prog w K mg base CX0 87 fa fd ["_law_script"] (spLaw K) := by
  have e := hfa.symm.trans (PySem.W.mg_of X G a_law)
  cases e
  refine ⟨PySem.W.fnOf "law" "law" (defArgs sLaw) (defBody sLaw) (defScope sLaw) .none kV_law dc_law pm_law an_law cd_law ct_law, fun s v => .of_eq rfl, fun base _ _ => ?_⟩
  exact all_ok (fun_mk l_is_whole q_is_whole k_is_whole) (PySem.W.mg_of X G a_is_whole) (fun_mk l_is_less q_is_less k_is_less) (PySem.W.mg_of X G a_is_less) (fun_mk l_is_pair q_is_pair k_is_pair) (PySem.W.mg_of X G a_is_pair) (fun_mk l_is_ladder q_is_ladder k_is_ladder) (PySem.W.mg_of X G a_is_ladder) (fun_mk l_parts q_parts k_parts) (PySem.W.mg_of X G a_parts) (fun_mk l_deep q_deep k_deep) (PySem.W.mg_of X G a_deep) (fun_mk l_show_pair q_show_pair k_show_pair) (PySem.W.mg_of X G a_show_pair) (fun_mk l_show_ladder q_show_ladder k_show_ladder) (PySem.W.mg_of X G a_show_ladder) (fun_mk l_many_at q_many_at k_many_at) (PySem.W.mg_of X G a_many_at) (fun_mk l_exponent_at q_exponent_at k_exponent_at) (PySem.W.mg_of X G a_exponent_at) (fun_mk l_pair_at q_pair_at k_pair_at) (PySem.W.mg_of X G a_pair_at) (fun_mk l_ladder_at q_ladder_at k_ladder_at) (PySem.W.mg_of X G a_ladder_at) (fun_mk l_read_ladder q_read_ladder k_read_ladder) (PySem.W.mg_of X G a_read_ladder) (fun_mk l__law_at q__law_at k__law_at) (PySem.W.mg_of X G a__law_at) (fun_mk l__law_purse q__law_purse k__law_purse) (PySem.W.mg_of X G a__law_purse) (fun_mk l__law_draw q__law_draw k__law_draw) (PySem.W.mg_of X G a__law_draw) (fun_mk l__law_many q__law_many k__law_many) (PySem.W.mg_of X G a__law_many) (fun_mk l__law_ladder q__law_ladder k__law_ladder) (PySem.W.mg_of X G a__law_ladder) (fun_mk l__law_alike q__law_alike k__law_alike) (PySem.W.mg_of X G a__law_alike) (fun_mk l__law_is_ladder q__law_is_ladder k__law_is_ladder) (PySem.W.mg_of X G a__law_is_ladder) (fun_mk l__law_shown q__law_shown k__law_shown) (PySem.W.mg_of X G a__law_shown) (fun_mk l__law_size q__law_size k__law_size) (PySem.W.mg_of X G a__law_size) (fun_mk l__law_bent q__law_bent k__law_bent) (PySem.W.mg_of X G a__law_bent) (fun_mk l__law_other_sign q__law_other_sign k__law_other_sign) (PySem.W.mg_of X G a__law_other_sign) (fun_mk l__law_refused q__law_refused k__law_refused) (PySem.W.mg_of X G a__law_refused) (fun_mk l__law_number_at q__law_number_at k__law_number_at) (PySem.W.mg_of X G a__law_number_at) (fun_mk l__law_pair_at q__law_pair_at k__law_pair_at) (PySem.W.mg_of X G a__law_pair_at) (fun_mk l__law_pairs_at q__law_pairs_at k__law_pairs_at) (PySem.W.mg_of X G a__law_pairs_at) (fun_mk l__law_due q__law_due k__law_due) (PySem.W.mg_of X G a__law_due) (fun_mk l__law_read_or_not q__law_read_or_not k__law_read_or_not) (PySem.W.mg_of X G a__law_read_or_not) (fun_mk l__law_there_and_back q__law_there_and_back k__law_there_and_back) (PySem.W.mg_of X G a__law_there_and_back) (fun_mk l__law_never q__law_never k__law_never) (PySem.W.mg_of X G a__law_never) (fun_mk l__law_at_bounds q__law_at_bounds k__law_at_bounds) (PySem.W.mg_of X G a__law_at_bounds) ⟨PySem.W.mg_of X G x1, x2, x3, x4, x5⟩ ⟨⟨e1, e2, e3, e4, e5, e6, e7, e8⟩, y1, y2, PySem.W.mg_of X G y3, y4, y5, y6, y7⟩ ⟨PySem.W.mg_of X G g0, s0, i0, t0⟩ ⟨PySem.W.mg_of X G g1, s1, i1, t1⟩ ⟨PySem.W.mg_of X G g2, s2, i2, t2⟩ ⟨PySem.W.mg_of X G g3, s3, i3, t3⟩ ⟨PySem.W.mg_of X G g4, s4, i4, t4⟩ ⟨PySem.W.mg_of X G g5, s5, i5, t5⟩ ⟨PySem.W.mg_of X G g6, s6, i6, t6⟩ ⟨PySem.W.mg_of X G g7, s7, i7, t7⟩ ⟨PySem.W.mg_of X G g8, s8, i8, t8⟩ ⟨PySem.W.mg_of X G g9, s9, i9, t9⟩ ⟨PySem.W.mg_of X G g10, s10, i10, t10⟩ ⟨PySem.W.mg_of X G g11, s11, i11, t11⟩ ⟨PySem.W.mg_of X G g12, s12, i12, t12⟩ ⟨PySem.W.mg_of X G g13, s13, i13, t13⟩ ⟨PySem.W.mg_of X G g14, s14, i14, t14⟩ ⟨PySem.W.mg_of X G g15, s15, i15, t15⟩ ⟨PySem.W.mg_of X G g16, s16, i16, t16⟩ ⟨PySem.W.mg_of X G g17, s17, i17, t17⟩ (PySem.W.mg_of X G w1) (one_mk w2 w3 w4) (PySem.W.mg_of X G j1) ⟨tk1, rfl⟩ (PySem.W.mg_of X G j2) ⟨tk2, rfl⟩ (PySem.W.mg_of X G j3) ⟨tk3, rfl⟩ (PySem.W.mg_of X G j4) ⟨tk4, rfl⟩ (PySem.W.mg_none_of X G z_isinstance) (PySem.W.mg_none_of X G z_int) (PySem.W.mg_none_of X G z_bool) (PySem.W.mg_none_of X G z_zip) (PySem.W.mg_none_of X G z_len) (PySem.W.mg_none_of X G z_tuple) (PySem.W.mg_none_of X G z_all) (PySem.W.mg_none_of X G z_range) (PySem.W.mg_none_of X G z_sum) (PySem.W.mg_none_of X G z_max) (PySem.W.mg_none_of X G z_str) (PySem.W.mg_none_of X G z_sorted) (PySem.W.mg_none_of X G z_abs) (PySem.W.mg_none_of X G z_enumerate) (PySem.W.mg_none_of X G z_ValueError) (fun_mk l_law q_law k_law)
theorem walk {l : PySem.W.OpenLaw} {q : Program} {loose : List Str} {XP : (Str → Option Value) → Heap → Prop} {YP : World → Heap → Prop} {d : DefRec} {K : Params → PySem.W.Frag} (hn : l.most = some 63) (hdf : d.params.defaults = [])
    (hY : ∀ (w : World) (h : Heap), YP w h → (K w.params).In h)
    (F : ∀ (w : World) (mg : Str → Option Value) (fa : Addr) (h : Heap), (K w.params).In h → h.Ns mainGlobals mg → mg d.name = some (.ref fa) →
      ∃ fd : FuncData, (∀ (s : Shared) (u : Value), BindsTo s fd ⟨[u], []⟩ [("_law_script", u)]) ∧ ∀ base : Heap, (K w.params).In base → base.Ns mainGlobals mg → FnOk l.prog w (K w.params) mg base CX0 87 fa fd ["_law_script"] (spLaw (K w.params))) :
    PySem.W.WalkO q loose XP YP l.row.toRowW d [] (fun f vs => PySem.call f vs) :=
  L2.walk_of (n := 63) (k := 87) (x := "_law_script") (CX := fun _ => CX0) (sp := fun w => spLaw (K w.params)) hn (by decide) hdf ⟨rfl, by decide, by decide⟩ hY F (fun _ _ a ns hl _ hS => ⟨a, ns, rfl, hS, hl, fun _ => rfl⟩) fun _ _ _ _ _ z => z
end K11
open PySem PySem.W PyProof.Rows
set_option maxRecDepth 100000 in
set_option maxHeartbeats 0 in
theorem PySem.Challenge.cw_felltimber_k11_whole_ladder_texts_holds : PySem.Challenge.rw_felltimber_k11_whole_ladder_texts.Holds := by
  w_on; o_law; k_head; (case hw => w_witness2)
  k_fill
  refine K11.walk (l := PySem.Challenge.rw_felltimber_k11_whole_ladder_texts) rfl rfl (fun w h Y => PySem.W.kIn_of Y) ?F
  case F =>
    intro w mg fa h KX G hmg
    refine' K11.all_mk KX G hmg ?kkk_a_is_whole ?kkk_l_is_whole ?kkk_q_is_whole ?kkk_k_is_whole ?kkk_a_is_less ?kkk_l_is_less ?kkk_q_is_less ?kkk_k_is_less ?kkk_a_is_pair ?kkk_l_is_pair ?kkk_q_is_pair ?kkk_k_is_pair ?kkk_a_is_ladder ?kkk_l_is_ladder ?kkk_q_is_ladder ?kkk_k_is_ladder ?kkk_a_parts ?kkk_l_parts ?kkk_q_parts ?kkk_k_parts ?kkk_a_deep ?kkk_l_deep ?kkk_q_deep ?kkk_k_deep ?kkk_a_show_pair ?kkk_l_show_pair ?kkk_q_show_pair ?kkk_k_show_pair ?kkk_a_show_ladder ?kkk_l_show_ladder ?kkk_q_show_ladder ?kkk_k_show_ladder ?kkk_a_many_at ?kkk_l_many_at ?kkk_q_many_at ?kkk_k_many_at ?kkk_a_exponent_at ?kkk_l_exponent_at ?kkk_q_exponent_at ?kkk_k_exponent_at ?kkk_a_pair_at ?kkk_l_pair_at ?kkk_q_pair_at ?kkk_k_pair_at ?kkk_a_ladder_at ?kkk_l_ladder_at ?kkk_q_ladder_at ?kkk_k_ladder_at ?kkk_a_read_ladder ?kkk_l_read_ladder ?kkk_q_read_ladder ?kkk_k_read_ladder ?kkk_a__law_at ?kkk_l__law_at ?kkk_q__law_at ?kkk_k__law_at ?kkk_a__law_purse ?kkk_l__law_purse ?kkk_q__law_purse ?kkk_k__law_purse ?kkk_a__law_draw ?kkk_l__law_draw ?kkk_q__law_draw ?kkk_k__law_draw ?kkk_a__law_many ?kkk_l__law_many ?kkk_q__law_many ?kkk_k__law_many ?kkk_a__law_ladder ?kkk_l__law_ladder ?kkk_q__law_ladder ?kkk_k__law_ladder ?kkk_a__law_alike ?kkk_l__law_alike ?kkk_q__law_alike ?kkk_k__law_alike ?kkk_a__law_is_ladder ?kkk_l__law_is_ladder ?kkk_q__law_is_ladder ?kkk_k__law_is_ladder ?kkk_a__law_shown ?kkk_l__law_shown ?kkk_q__law_shown ?kkk_k__law_shown ?kkk_a__law_size ?kkk_l__law_size ?kkk_q__law_size ?kkk_k__law_size ?kkk_a__law_bent ?kkk_l__law_bent ?kkk_q__law_bent ?kkk_k__law_bent ?kkk_a__law_other_sign ?kkk_l__law_other_sign ?kkk_q__law_other_sign ?kkk_k__law_other_sign ?kkk_a__law_refused ?kkk_l__law_refused ?kkk_q__law_refused ?kkk_k__law_refused ?kkk_a__law_number_at ?kkk_l__law_number_at ?kkk_q__law_number_at ?kkk_k__law_number_at ?kkk_a__law_pair_at ?kkk_l__law_pair_at ?kkk_q__law_pair_at ?kkk_k__law_pair_at ?kkk_a__law_pairs_at ?kkk_l__law_pairs_at ?kkk_q__law_pairs_at ?kkk_k__law_pairs_at ?kkk_a__law_due ?kkk_l__law_due ?kkk_q__law_due ?kkk_k__law_due ?kkk_a__law_read_or_not ?kkk_l__law_read_or_not ?kkk_q__law_read_or_not ?kkk_k__law_read_or_not ?kkk_a__law_there_and_back ?kkk_l__law_there_and_back ?kkk_q__law_there_and_back ?kkk_k__law_there_and_back ?kkk_a__law_never ?kkk_l__law_never ?kkk_q__law_never ?kkk_k__law_never ?kkk_a__law_at_bounds ?kkk_l__law_at_bounds ?kkk_q__law_at_bounds ?kkk_k__law_at_bounds ?kkk_a_law ?kkk_l_law ?kkk_q_law ?kkk_k_law ?kkk_x1 ?kkk_x2 ?kkk_x3 ?kkk_x4 ?kkk_x5 ?kkk_y1 ?kkk_y2 ?kkk_y3 ?kkk_y4 ?kkk_y5 ?kkk_y6 ?kkk_y7 ?kkk_e1 ?kkk_e2 ?kkk_e3 ?kkk_e4 ?kkk_e5 ?kkk_e6 ?kkk_e7 ?kkk_e8 ?kkk_g0 ?kkk_s0 ?kkk_i0 ?kkk_t0 ?kkk_g1 ?kkk_s1 ?kkk_i1 ?kkk_t1 ?kkk_g2 ?kkk_s2 ?kkk_i2 ?kkk_t2 ?kkk_g3 ?kkk_s3 ?kkk_i3 ?kkk_t3 ?kkk_g4 ?kkk_s4 ?kkk_i4 ?kkk_t4 ?kkk_g5 ?kkk_s5 ?kkk_i5 ?kkk_t5 ?kkk_g6 ?kkk_s6 ?kkk_i6 ?kkk_t6 ?kkk_g7 ?kkk_s7 ?kkk_i7 ?kkk_t7 ?kkk_g8 ?kkk_s8 ?kkk_i8 ?kkk_t8 ?kkk_g9 ?kkk_s9 ?kkk_i9 ?kkk_t9 ?kkk_g10 ?kkk_s10 ?kkk_i10 ?kkk_t10 ?kkk_g11 ?kkk_s11 ?kkk_i11 ?kkk_t11 ?kkk_g12 ?kkk_s12 ?kkk_i12 ?kkk_t12 ?kkk_g13 ?kkk_s13 ?kkk_i13 ?kkk_t13 ?kkk_g14 ?kkk_s14 ?kkk_i14 ?kkk_t14 ?kkk_g15 ?kkk_s15 ?kkk_i15 ?kkk_t15 ?kkk_g16 ?kkk_s16 ?kkk_i16 ?kkk_t16 ?kkk_g17 ?kkk_s17 ?kkk_i17 ?kkk_t17 ?kkk_w1 ?kkk_w2 ?kkk_w3 ?kkk_w4 ?kkk_j1 ?kkk_j2 ?kkk_j3 ?kkk_j4 ?kkk_z_isinstance ?kkk_z_int ?kkk_z_bool ?kkk_z_zip ?kkk_z_len ?kkk_z_tuple ?kkk_z_all ?kkk_z_range ?kkk_z_sum ?kkk_z_max ?kkk_z_str ?kkk_z_sorted ?kkk_z_abs ?kkk_z_enumerate ?kkk_z_ValueError
    (case kkk_a_is_whole => k_is)
    (case kkk_l_is_whole => k_is)
    (case kkk_q_is_whole => k_is)
    (case kkk_k_is_whole => k_is)
    (case kkk_a_is_less => k_is)
    (case kkk_l_is_less => k_is)
    (case kkk_q_is_less => k_is)
    (case kkk_k_is_less => k_is)
    (case kkk_a_is_pair => k_is)
    (case kkk_l_is_pair => k_is)
    (case kkk_q_is_pair => k_is)
    (case kkk_k_is_pair => k_is)
    (case kkk_a_is_ladder => k_is)
    (case kkk_l_is_ladder => k_is)
    (case kkk_q_is_ladder => k_is)
    (case kkk_k_is_ladder => k_is)
    (case kkk_a_parts => k_is)
    (case kkk_l_parts => k_is)
    (case kkk_q_parts => k_is)
    (case kkk_k_parts => k_is)
    (case kkk_a_deep => k_is)
    (case kkk_l_deep => k_is)
    (case kkk_q_deep => k_is)
    (case kkk_k_deep => k_is)
    (case kkk_a_show_pair => k_is)
    (case kkk_l_show_pair => k_is)
    (case kkk_q_show_pair => k_is)
    (case kkk_k_show_pair => k_is)
    (case kkk_a_show_ladder => k_is)
    (case kkk_l_show_ladder => k_is)
    (case kkk_q_show_ladder => k_is)
    (case kkk_k_show_ladder => k_is)
    (case kkk_a_many_at => k_is)
    (case kkk_l_many_at => k_is)
    (case kkk_q_many_at => k_is)
    (case kkk_k_many_at => k_is)
    (case kkk_a_exponent_at => k_is)
    (case kkk_l_exponent_at => k_is)
    (case kkk_q_exponent_at => k_is)
    (case kkk_k_exponent_at => k_is)
    (case kkk_a_pair_at => k_is)
    (case kkk_l_pair_at => k_is)
    (case kkk_q_pair_at => k_is)
    (case kkk_k_pair_at => k_is)
    (case kkk_a_ladder_at => k_is)
    (case kkk_l_ladder_at => k_is)
    (case kkk_q_ladder_at => k_is)
    (case kkk_k_ladder_at => k_is)
    (case kkk_a_read_ladder => k_is)
    (case kkk_l_read_ladder => k_is)
    (case kkk_q_read_ladder => k_is)
    (case kkk_k_read_ladder => k_is)
    (case kkk_a__law_at => k_is)
    (case kkk_l__law_at => k_is)
    (case kkk_q__law_at => k_is)
    (case kkk_k__law_at => k_is)
    (case kkk_a__law_purse => k_is)
    (case kkk_l__law_purse => k_is)
    (case kkk_q__law_purse => k_is)
    (case kkk_k__law_purse => k_is)
    (case kkk_a__law_draw => k_is)
    (case kkk_l__law_draw => k_is)
    (case kkk_q__law_draw => k_is)
    (case kkk_k__law_draw => k_is)
    (case kkk_a__law_many => k_is)
    (case kkk_l__law_many => k_is)
    (case kkk_q__law_many => k_is)
    (case kkk_k__law_many => k_is)
    (case kkk_a__law_ladder => k_is)
    (case kkk_l__law_ladder => k_is)
    (case kkk_q__law_ladder => k_is)
    (case kkk_k__law_ladder => k_is)
    (case kkk_a__law_alike => k_is)
    (case kkk_l__law_alike => k_is)
    (case kkk_q__law_alike => k_is)
    (case kkk_k__law_alike => k_is)
    (case kkk_a__law_is_ladder => k_is)
    (case kkk_l__law_is_ladder => k_is)
    (case kkk_q__law_is_ladder => k_is)
    (case kkk_k__law_is_ladder => k_is)
    (case kkk_a__law_shown => k_is)
    (case kkk_l__law_shown => k_is)
    (case kkk_q__law_shown => k_is)
    (case kkk_k__law_shown => k_is)
    (case kkk_a__law_size => k_is)
    (case kkk_l__law_size => k_is)
    (case kkk_q__law_size => k_is)
    (case kkk_k__law_size => k_is)
    (case kkk_a__law_bent => k_is)
    (case kkk_l__law_bent => k_is)
    (case kkk_q__law_bent => k_is)
    (case kkk_k__law_bent => k_is)
    (case kkk_a__law_other_sign => k_is)
    (case kkk_l__law_other_sign => k_is)
    (case kkk_q__law_other_sign => k_is)
    (case kkk_k__law_other_sign => k_is)
    (case kkk_a__law_refused => k_is)
    (case kkk_l__law_refused => k_is)
    (case kkk_q__law_refused => k_is)
    (case kkk_k__law_refused => k_is)
    (case kkk_a__law_number_at => k_is)
    (case kkk_l__law_number_at => k_is)
    (case kkk_q__law_number_at => k_is)
    (case kkk_k__law_number_at => k_is)
    (case kkk_a__law_pair_at => k_is)
    (case kkk_l__law_pair_at => k_is)
    (case kkk_q__law_pair_at => k_is)
    (case kkk_k__law_pair_at => k_is)
    (case kkk_a__law_pairs_at => k_is)
    (case kkk_l__law_pairs_at => k_is)
    (case kkk_q__law_pairs_at => k_is)
    (case kkk_k__law_pairs_at => k_is)
    (case kkk_a__law_due => k_is)
    (case kkk_l__law_due => k_is)
    (case kkk_q__law_due => k_is)
    (case kkk_k__law_due => k_is)
    (case kkk_a__law_read_or_not => k_is)
    (case kkk_l__law_read_or_not => k_is)
    (case kkk_q__law_read_or_not => k_is)
    (case kkk_k__law_read_or_not => k_is)
    (case kkk_a__law_there_and_back => k_is)
    (case kkk_l__law_there_and_back => k_is)
    (case kkk_q__law_there_and_back => k_is)
    (case kkk_k__law_there_and_back => k_is)
    (case kkk_a__law_never => k_is)
    (case kkk_l__law_never => k_is)
    (case kkk_q__law_never => k_is)
    (case kkk_k__law_never => k_is)
    (case kkk_a__law_at_bounds => k_is)
    (case kkk_l__law_at_bounds => k_is)
    (case kkk_q__law_at_bounds => k_is)
    (case kkk_k__law_at_bounds => k_is)
    (case kkk_a_law => k_is)
    (case kkk_l_law => k_is)
    (case kkk_q_law => k_is)
    (case kkk_k_law => k_is)
    (case kkk_x1 => k_is)
    (case kkk_x2 => k_exc)
    (case kkk_x3 => k_is)
    (case kkk_x4 => k_is)
    (case kkk_x5 => k_is)
    (case kkk_y1 => k_is)
    (case kkk_y2 => k_is)
    (case kkk_y3 => k_is)
    (case kkk_y4 => k_is)
    (case kkk_y5 => k_is)
    (case kkk_y6 => k_is)
    (case kkk_y7 => k_is)
    (case kkk_e1 => k_is)
    (case kkk_e2 => k_is)
    (case kkk_e3 => k_is)
    (case kkk_e4 => k_is)
    (case kkk_e5 => k_is)
    (case kkk_e6 => k_is)
    (case kkk_e7 => k_is)
    (case kkk_e8 => k_is)
    (case kkk_g0 => k_is)
    (case kkk_s0 => k_is)
    (case kkk_i0 => k_is)
    (case kkk_t0 => k_is)
    (case kkk_g1 => k_is)
    (case kkk_s1 => k_is)
    (case kkk_i1 => k_is)
    (case kkk_t1 => k_is)
    (case kkk_g2 => k_is)
    (case kkk_s2 => k_is)
    (case kkk_i2 => k_is)
    (case kkk_t2 => k_is)
    (case kkk_g3 => k_is)
    (case kkk_s3 => k_is)
    (case kkk_i3 => k_is)
    (case kkk_t3 => k_is)
    (case kkk_g4 => k_is)
    (case kkk_s4 => k_is)
    (case kkk_i4 => k_is)
    (case kkk_t4 => k_is)
    (case kkk_g5 => k_is)
    (case kkk_s5 => k_is)
    (case kkk_i5 => k_is)
    (case kkk_t5 => k_is)
    (case kkk_g6 => k_is)
    (case kkk_s6 => k_is)
    (case kkk_i6 => k_is)
    (case kkk_t6 => k_is)
    (case kkk_g7 => k_is)
    (case kkk_s7 => k_is)
    (case kkk_i7 => k_is)
    (case kkk_t7 => k_is)
    (case kkk_g8 => k_is)
    (case kkk_s8 => k_is)
    (case kkk_i8 => k_is)
    (case kkk_t8 => k_is)
    (case kkk_g9 => k_is)
    (case kkk_s9 => k_is)
    (case kkk_i9 => k_is)
    (case kkk_t9 => k_is)
    (case kkk_g10 => k_is)
    (case kkk_s10 => k_is)
    (case kkk_i10 => k_is)
    (case kkk_t10 => k_is)
    (case kkk_g11 => k_is)
    (case kkk_s11 => k_is)
    (case kkk_i11 => k_is)
    (case kkk_t11 => k_is)
    (case kkk_g12 => k_is)
    (case kkk_s12 => k_is)
    (case kkk_i12 => k_is)
    (case kkk_t12 => k_is)
    (case kkk_g13 => k_is)
    (case kkk_s13 => k_is)
    (case kkk_i13 => k_is)
    (case kkk_t13 => k_is)
    (case kkk_g14 => k_is)
    (case kkk_s14 => k_is)
    (case kkk_i14 => k_is)
    (case kkk_t14 => k_is)
    (case kkk_g15 => k_is)
    (case kkk_s15 => k_is)
    (case kkk_i15 => k_is)
    (case kkk_t15 => k_is)
    (case kkk_g16 => k_is)
    (case kkk_s16 => k_is)
    (case kkk_i16 => k_is)
    (case kkk_t16 => k_is)
    (case kkk_g17 => k_is)
    (case kkk_s17 => k_is)
    (case kkk_i17 => k_is)
    (case kkk_t17 => k_is)
    (case kkk_w1 => k_is)
    (case kkk_w2 => k_is)
    (case kkk_w3 => k_is)
    (case kkk_w4 => k_is)
    (case kkk_j1 => k_is)
    (case kkk_j2 => k_is)
    (case kkk_j3 => k_is)
    (case kkk_j4 => k_is)
    (case kkk_z_isinstance => k_is)
    (case kkk_z_int => k_is)
    (case kkk_z_bool => k_is)
    (case kkk_z_zip => k_is)
    (case kkk_z_len => k_is)
    (case kkk_z_tuple => k_is)
    (case kkk_z_all => k_is)
    (case kkk_z_range => k_is)
    (case kkk_z_sum => k_is)
    (case kkk_z_max => k_is)
    (case kkk_z_str => k_is)
    (case kkk_z_sorted => k_is)
    (case kkk_z_abs => k_is)
    (case kkk_z_enumerate => k_is)
    (case kkk_z_ValueError => k_is)
