import PyProof.Rows.All
import Wide.All
import OpenK.AllK
import Wide.FinOn
import PyProof.NeKinds
import PyProof.Rows.SetFrom
import KE.KExcInit
import KE.KExcIs
import HandS.ForMost
import HandS.Exc
import HandS.ExcInit
import HandS.ExcField
import HandS.ExcIs
import HandS.ClsMeth
import HandS.IsInst
import HandS.Codes
import HandS.Lambda
import HandS.EndTab
import HandS.OwnEq
import HandS.Set
import HandS.Strs
import HandS.SetFor
import HandS.Defaults
import HandS.Deep
import HandS.Wide
import HandS.Style
import HandS.Flow
import HandS.Sort
import HandS.SortRule
import HandS.WordsExc
import HandS.Head0
import HandS.Head1
import HandS.Head2
import HandS.HeadEnd
import HandS.HeadHook1
import HandS.HeadHook2
import HandS.HeadHook3
import HandS.HeadHook4
import HandS.HeadWalk
import HandS.Walk
import PySem.Challenge.RW_farwrap_k67_whole_far_rows_of_casts
set_option Elab.async false
set_option linter.all false
set_option maxRecDepth 100000
set_option maxHeartbeats 4000000
/-! The mathematics of rows of casts: kinds, effects. Plain Lean. -/
namespace Rw

def P2 (n : Nat) : Int := 2 ^ n
theorem P2_pos (n : Nat) : 0 < P2 n := by
  unfold P2
  exact Int.pow_pos (by decide)
theorem P2_succ (n : Nat) : P2 (n + 1) = 2 * P2 n := by
  unfold P2
  rw [Int.pow_succ]; omega
theorem P2_zero : P2 0 = 1 := rfl
theorem P2_pred {n : Nat} (h : 1 ≤ n) : P2 n = 2 * P2 (n - 1) := by
  have e : n = (n - 1) + 1 := by omega
  conv => lhs; rw [e]
  exact P2_succ _
theorem P2_add (a b : Nat) : P2 (a + b) = P2 a * P2 b := by
  unfold P2
  exact Int.pow_add ..
theorem P2_split {a b : Nat} (h : a ≤ b) : P2 b = P2 a * P2 (b - a) := by
  rw [← P2_add]
  congr 1; omega
theorem P2_le {a b : Nat} (h : a ≤ b) : P2 a ≤ P2 b := by
  rw [P2_split h]
  have h1 := P2_pos a
  have h2 := P2_pos (b - a)
  have h3 : P2 a * 1 ≤ P2 a * P2 (b - a) := Int.mul_le_mul_of_nonneg_left (by omega) (by omega)
  omega
theorem P2_lt {a b : Nat} (h : a < b) : 2 * P2 a ≤ P2 b := by
  have := P2_le (a := a + 1) (b := b) h
  rw [P2_succ] at this
  exact this
theorem P2_inj {a b : Nat} (h : P2 a = P2 b) : a = b := by
  have ha := P2_pos a
  have hb := P2_pos b
  rcases Nat.lt_trichotomy a b with g | g | g
  · have := P2_lt g; omega
  · exact g
  · have := P2_lt g; omega
theorem P2_one_le (n : Nat) : 1 ≤ P2 n := P2_pos n

/-- the residue told by a witness -/
theorem mod_eq {n y m q : Int} (h : n = y + m * q) (h0 : 0 ≤ y) (h1 : y < m) : n % m = y := by
  rw [h, Int.add_mul_emod_self_left]
  exact Int.emod_eq_of_lt h0 h1
theorem mod_split (n : Int) {m : Int} (hm : 0 < m) : ∃ q, n = n % m + m * q ∧ 0 ≤ n % m ∧ n % m < m :=
  ⟨n / m, by have := Int.emod_add_mul_ediv n m; omega, Int.emod_nonneg _ (by omega), Int.emod_lt_of_pos _ hm⟩

/-! ### kinds -/
structure Kd where
  w : Nat
  s : Bool
  deriving DecidableEq, Inhabited
def lo (k : Kd) : Int := if k.s = true then 0 - P2 (k.w - 1) else 0
def hi (k : Kd) : Int := lo k + P2 k.w - 1
def put (k : Kd) (n : Int) : Int := lo k + (n - lo k) % P2 k.w
def castL (ks : List Kd) (n : Int) : Int := ks.foldl (fun n k => put k n) n
theorem castL_nil (n : Int) : castL [] n = n := rfl
theorem castL_cons (k : Kd) (ks : List Kd) (n : Int) : castL (k :: ks) n = castL ks (put k n) := rfl
theorem castL_append (ks js : List Kd) (n : Int) : castL (ks ++ js) n = castL js (castL ks n) := by
  unfold castL; rw [List.foldl_append]
theorem put_eq {k : Kd} {n y q : Int} (h : n = y + P2 k.w * q) (h0 : lo k ≤ y) (h1 : y < lo k + P2 k.w) : put k n = y := by
  unfold put
  rw [mod_eq (n := n - lo k) (y := y - lo k) (q := q) (by omega) (by omega) (by omega)]
  omega
theorem put_self {k : Kd} {n : Int} (h0 : lo k ≤ n) (h1 : n < lo k + P2 k.w) : put k n = n := put_eq (q := 0) (by omega) h0 h1
theorem put_in (k : Kd) (n : Int) : lo k ≤ put k n ∧ put k n < lo k + P2 k.w := by
  obtain ⟨q, -, h0, h1⟩ := mod_split (n - lo k) (P2_pos k.w)
  unfold put; omega
theorem put_mod (k : Kd) (n : Int) : ∃ q, n = put k n + P2 k.w * q := by
  obtain ⟨q, e, _, _⟩ := mod_split (n - lo k) (P2_pos k.w)
  exact ⟨q, by unfold put; omega⟩
def Kd.Ok (k : Kd) : Prop := 1 ≤ k.w ∧ k.w ≤ 128

/-! ### effects -/
structure Ef where
  b : Nat
  wd : Nat
  below : Bool
  deriving DecidableEq, Inhabited
def Ef.sh (e : Ef) : Int := if e.below = true then 0 - P2 e.b else P2 e.wd - P2 e.b
def Ef.fn (e : Ef) (n : Int) : Int := if n % P2 e.b < P2 (e.b - 1) then n % P2 e.b else n % P2 e.b + e.sh
structure Ef.Ok (e : Ef) : Prop where
  b1 : 1 ≤ e.b
  bw : e.b ≤ e.wd
  be : e.below = true → e.wd = e.b
  w128 : e.wd ≤ 128
structure Es where
  b : Nat
  wd : Nat
  tt : Nat
  sg : Bool
  deriving Inhabited
def Es.step (t : Es) (k : Kd) : Es :=
  if k.w ≤ t.b then ⟨k.w, k.w, k.w, k.s⟩
  else if k.w ≤ t.tt then ⟨t.b, min t.wd k.w, k.w, k.s⟩
  else if t.sg = true ∧ t.wd = t.tt then ⟨t.b, k.w, k.w, k.s⟩
  else ⟨t.b, t.wd, k.w, k.s⟩
def Es.init (k : Kd) : Es := ⟨k.w, k.w, k.w, k.s⟩
def Es.fin (t : Es) : Ef := ⟨t.b, if (t.sg && decide (t.wd = t.tt)) = true then t.b else t.wd, t.sg && decide (t.wd = t.tt)⟩
def effOf : List Kd → Ef
  | [] => default
  | k :: ks => (ks.foldl Es.step (Es.init k)).fin
structure Es.Ok (t : Es) : Prop where
  b1 : 1 ≤ t.b
  bw : t.b ≤ t.wd
  wt : t.wd ≤ t.tt
  t128 : t.tt ≤ 128
theorem Es.Ok.init {k : Kd} (h : k.Ok) : (Es.init k).Ok := ⟨h.1, Nat.le_refl _, Nat.le_refl _, h.2⟩
theorem Es.Ok.step {t : Es} {k : Kd} (o : t.Ok) (h : k.Ok) : (t.step k).Ok := by
  obtain ⟨h1, h2⟩ := h
  obtain ⟨o1, o2, o3, o4⟩ := o
  unfold Es.step
  split
  · exact ⟨h1, Nat.le_refl _, Nat.le_refl _, h2⟩
  · split
    · exact ⟨o1, by dsimp only; omega, by dsimp only; omega, h2⟩
    · split
      · exact ⟨o1, by dsimp only; omega, by dsimp only; omega, h2⟩
      · exact ⟨o1, o2, by dsimp only; omega, h2⟩
theorem Es.step_b (t : Es) (k : Kd) : (t.step k).b ≤ t.b ∧ (t.step k).b ≤ max t.b k.w := by
  unfold Es.step
  split
  · exact ⟨by assumption, by dsimp only; omega⟩
  · split
    · exact ⟨Nat.le_refl _, by dsimp only; omega⟩
    · split <;> exact ⟨Nat.le_refl _, by dsimp only; omega⟩
/-- the value behind a prefix of the row -/
def Es.val (t : Es) (n : Int) : Int := if n % P2 t.b < P2 (t.b - 1) then n % P2 t.b else if t.sg = true ∧ t.wd = t.tt then n % P2 t.b - P2 t.b else n % P2 t.b + P2 t.wd - P2 t.b
theorem lo_cases (k : Kd) (h : 1 ≤ k.w) : (k.s = true ∧ lo k = - P2 (k.w - 1) ∨ k.s = false ∧ lo k = 0) ∧ P2 k.w = 2 * P2 (k.w - 1) := by
  refine ⟨?_, P2_pred h⟩
  unfold lo
  cases e : k.s
  · exact .inr ⟨rfl, rfl⟩
  · exact .inl ⟨rfl, by simp⟩
theorem val_init {k : Kd} (h : k.Ok) (n : Int) : (Es.init k).val n = put k n := by
  obtain ⟨q, e, h0, h1⟩ := mod_split n (P2_pos k.w)
  obtain ⟨hl, hp⟩ := lo_cases k h.1
  have hb : (Es.init k).b = k.w := rfl
  have hw : (Es.init k).wd = k.w := rfl
  have ht : (Es.init k).tt = k.w := rfl
  have hs : (Es.init k).sg = k.s := rfl
  unfold Es.val
  rw [hb, hw, ht, hs]
  split
  · refine (put_eq (q := q) e ?_ ?_).symm <;> omega
  · split
    · rename_i h2
      refine (put_eq (q := q + 1) ?_ ?_ ?_).symm
      · rw [Int.mul_add]; omega
      · rcases hl with ⟨_, hl⟩ | ⟨hs, _⟩
        · omega
        · rw [hs] at h2; exact absurd h2.1 (by decide)
      · rcases hl with ⟨_, hl⟩ | ⟨hs, _⟩
        · omega
        · rw [hs] at h2; exact absurd h2.1 (by decide)
    · rename_i h2
      have hs0 : k.s = false := by
        cases hh : k.s
        · rfl
        · exact absurd ⟨hh, rfl⟩ h2
      refine (put_eq (q := q) ?_ ?_ ?_).symm
      · omega
      · rcases hl with ⟨hs, _⟩ | ⟨_, hl⟩
        · rw [hs0] at hs; cases hs
        · omega
      · rcases hl with ⟨hs, _⟩ | ⟨_, hl⟩
        · rw [hs0] at hs; cases hs
        · omega

theorem step_val {t : Es} {k : Kd} (o : t.Ok) (hk : k.Ok) (n : Int) : (t.step k).val n = put k (t.val n) := by
  obtain ⟨o1, o2, o3, o4⟩ := o
  obtain ⟨q, e, h0, h1⟩ := mod_split n (P2_pos t.b)
  obtain ⟨hl, hp⟩ := lo_cases k hk.1
  have hb := P2_pred o1
  have hbp := P2_pos (t.b - 1)
  have hkp := P2_pos (k.w - 1)
  generalize hr : n % P2 t.b = r at e h0 h1
  by_cases c1 : k.w ≤ t.b
  · -- the last bits of the last bits
    have es : t.step k = Es.init k := by unfold Es.step Es.init; rw [if_pos c1]
    rw [es, val_init hk]
    obtain ⟨q1, e1, -, -⟩ : ∃ q1, n = t.val n + P2 k.w * q1 ∧ True ∧ True := by
      have s1 := P2_split c1
      have s2 := P2_split (Nat.le_trans c1 o2)
      unfold Es.val
      rw [hr]
      split
      · exact ⟨P2 (t.b - k.w) * q, by rw [← Int.mul_assoc, ← s1]; exact e, trivial, trivial⟩
      · split
        · exact ⟨P2 (t.b - k.w) * (q + 1), by rw [← Int.mul_assoc, ← s1, Int.mul_add]; omega, trivial, trivial⟩
        · refine ⟨P2 (t.b - k.w) * (q + 1) - P2 (t.wd - k.w), ?_, trivial, trivial⟩
          rw [Int.mul_sub, ← Int.mul_assoc, ← s1, ← s2, Int.mul_add]; omega
    obtain ⟨q2, e2⟩ := put_mod k (t.val n)
    have i2 := put_in k (t.val n)
    refine put_eq (q := q1 + q2) ?_ i2.1 i2.2
    rw [Int.mul_add]; omega
  · have c1' : t.b < k.w := by omega
    have hlt := P2_lt c1'
    by_cases c2 : k.w ≤ t.tt
    · have es : t.step k = ⟨t.b, min t.wd k.w, k.w, k.s⟩ := by unfold Es.step; rw [if_neg c1, if_pos c2]
      rw [es]
      unfold Es.val
      dsimp only
      rw [hr]
      split
      · refine (put_eq (q := 0) ?_ ?_ ?_).symm <;> omega
      · -- above
        by_cases c3 : t.sg = true ∧ t.wd = t.tt
        · rw [if_pos c3]
          have em : min t.wd k.w = k.w := by omega
          rw [em]
          split
          · rename_i h5
            have hl1 : lo k = - P2 (k.w - 1) := by
              rcases hl with ⟨_, hl⟩ | ⟨hs, _⟩
              · exact hl
              · rw [hs] at h5; exact absurd h5.1 (by decide)
            refine (put_eq (q := 0) ?_ ?_ ?_).symm <;> omega
          · rename_i h5
            have hl0 : lo k = 0 := by
              rcases hl with ⟨hs, _⟩ | ⟨_, hl⟩
              · exact absurd ⟨hs, rfl⟩ h5
              · exact hl
            refine (put_eq (q := -1) ?_ ?_ ?_).symm <;> omega
        · rw [if_neg c3]
          by_cases c4 : k.w ≤ t.wd
          · have em : min t.wd k.w = k.w := by omega
            rw [em]
            have s2 := P2_split c4
            split
            · rename_i h5
              have hl1 : lo k = - P2 (k.w - 1) := by
                rcases hl with ⟨_, hl⟩ | ⟨hs, _⟩
                · exact hl
                · rw [hs] at h5; exact absurd h5.1 (by decide)
              refine (put_eq (q := P2 (t.wd - k.w)) ?_ ?_ ?_).symm
              · rw [← s2]; omega
              · omega
              · omega
            · rename_i h5
              have hl0 : lo k = 0 := by
                rcases hl with ⟨hs, _⟩ | ⟨_, hl⟩
                · exact absurd ⟨hs, rfl⟩ h5
                · exact hl
              refine (put_eq (q := P2 (t.wd - k.w) - 1) ?_ ?_ ?_).symm
              · rw [Int.mul_sub, ← s2]; omega
              · omega
              · omega
          · have em : min t.wd k.w = t.wd := by omega
            rw [em]
            have c5 : ¬ (k.s = true ∧ t.wd = k.w) := by omega
            rw [if_neg c5]
            have l1 := P2_lt (a := t.wd) (b := k.w) (by omega)
            have l2 := P2_le o2
            refine (put_eq (q := 0) ?_ ?_ ?_).symm <;> omega
    · by_cases c3 : t.sg = true ∧ t.wd = t.tt
      · have es : t.step k = ⟨t.b, k.w, k.w, k.s⟩ := by unfold Es.step; rw [if_neg c1, if_neg c2, if_pos c3]
        rw [es]
        unfold Es.val
        dsimp only
        rw [hr, if_pos c3]
        split
        · refine (put_eq (q := 0) ?_ ?_ ?_).symm <;> omega
        · split
          · rename_i h5
            have hl1 : lo k = - P2 (k.w - 1) := by
              rcases hl with ⟨_, hl⟩ | ⟨hs, _⟩
              · exact hl
              · rw [hs] at h5; exact absurd h5.1 (by decide)
            refine (put_eq (q := 0) ?_ ?_ ?_).symm <;> omega
          · rename_i h5
            have hl0 : lo k = 0 := by
              rcases hl with ⟨hs, _⟩ | ⟨_, hl⟩
              · exact absurd ⟨hs, rfl⟩ h5
              · exact hl
            refine (put_eq (q := -1) ?_ ?_ ?_).symm <;> omega
      · have es : t.step k = ⟨t.b, t.wd, k.w, k.s⟩ := by unfold Es.step; rw [if_neg c1, if_neg c2, if_neg c3]
        rw [es]
        unfold Es.val
        dsimp only
        rw [hr, if_neg c3]
        have l1 := P2_lt (a := t.wd) (b := k.w) (by omega)
        have l2 := P2_le o2
        split
        · refine (put_eq (q := 0) ?_ ?_ ?_).symm <;> omega
        · have c5 : ¬ (k.s = true ∧ t.wd = k.w) := by omega
          rw [if_neg c5]
          refine (put_eq (q := 0) ?_ ?_ ?_).symm <;> omega
theorem fin_fn (t : Es) (n : Int) : t.fin.fn n = t.val n := by
  unfold Es.fin Ef.fn Es.val Ef.sh
  dsimp only
  split
  · rfl
  · cases hs : t.sg
    · simp; omega
    · by_cases hw : t.wd = t.tt
      · simp [hw]; omega
      · simp [hw]; omega
theorem steps_val : ∀ (ks : List Kd) {t : Es}, t.Ok → (∀ k ∈ ks, k.Ok) → (ks.foldl Es.step t).Ok ∧ ∀ n, (ks.foldl Es.step t).val n = castL ks (t.val n)
  | [], t, o, _ => ⟨o, fun _ => rfl⟩
  | k :: ks, t, o, h => by
    have hk := h k (List.mem_cons_self ..)
    obtain ⟨a, b⟩ := steps_val ks (o.step hk) fun k m => h k (List.mem_cons_of_mem _ m)
    refine ⟨a, fun n => ?_⟩
    rw [List.foldl_cons, b, castL_cons, step_val o hk]
theorem effOf_fn {ks : List Kd} (h0 : ks ≠ []) (h : ∀ k ∈ ks, k.Ok) (n : Int) : (effOf ks).fn n = castL ks n := by
  cases ks with
  | nil => exact absurd rfl h0
  | cons k ks =>
    have hk := h k (List.mem_cons_self ..)
    obtain ⟨_, b⟩ := steps_val ks (Es.Ok.init hk) fun k m => h k (List.mem_cons_of_mem _ m)
    show (ks.foldl Es.step (Es.init k)).fin.fn n = _
    rw [fin_fn, b, val_init hk, castL_cons]
theorem Es.Ok.fin {t : Es} (o : t.Ok) : t.fin.Ok := by
  obtain ⟨o1, o2, o3, o4⟩ := o
  unfold Es.fin
  refine ⟨o1, ?_, ?_, ?_⟩
  · dsimp only; split <;> omega
  · dsimp only
    intro h
    rw [if_pos h]
  · dsimp only; split <;> omega
theorem steps_b : ∀ (ks : List Kd) (t : Es), (ks.foldl Es.step t).b ≤ t.b
  | [], _ => Nat.le_refl _
  | k :: ks, t => Nat.le_trans (steps_b ks (t.step k)) (t.step_b k).1
theorem effOf_ok {ks : List Kd} (h0 : ks ≠ []) (h : ∀ k ∈ ks, k.Ok) : (effOf ks).Ok := by
  cases ks with
  | nil => exact absurd rfl h0
  | cons k ks =>
    exact (steps_val ks (Es.Ok.init (h k (List.mem_cons_self ..))) fun k m => h k (List.mem_cons_of_mem _ m)).1.fin
theorem effOf_b (k : Kd) (ks : List Kd) : (effOf (k :: ks)).b ≤ k.w := steps_b ks (Es.init k)


/-! ### parts and shortest rows -/
def Ef.parts (e : Ef) : Nat × Int := (e.b, e.sh)
def Ef.row (e : Ef) : List Kd := if e.wd = e.b then [⟨e.b, e.below⟩] else [⟨e.b, true⟩, ⟨e.wd, false⟩]
theorem fn_parts {e f : Ef} (h : e.parts = f.parts) (n : Int) : e.fn n = f.fn n := by
  have h1 : e.b = f.b := congrArg Prod.fst h
  have h2 : e.sh = f.sh := congrArg Prod.snd h
  unfold Ef.fn
  rw [h1, h2]
theorem sh_cases {e : Ef} (o : e.Ok) : (e.below = true ∧ e.wd = e.b ∧ e.sh = - P2 e.b) ∨ (e.below = false ∧ e.wd = e.b ∧ e.sh = 0) ∨ (e.below = false ∧ e.b < e.wd ∧ e.sh = P2 e.wd - P2 e.b ∧ P2 e.b ≤ e.sh) := by
  obtain ⟨h1, h2, h3, h4⟩ := o
  unfold Ef.sh
  cases hb : e.below
  · by_cases h : e.wd = e.b
    · refine .inr (.inl ⟨rfl, h, ?_⟩)
      rw [h]; simp
    · have := P2_lt (a := e.b) (b := e.wd) (by omega)
      refine .inr (.inr ⟨rfl, by omega, ?_, ?_⟩)
      · simp
      · simp; omega
  · exact .inl ⟨rfl, h3 hb, by simp⟩
theorem row_parts {e f : Ef} (oe : e.Ok) (of : f.Ok) (h : e.parts = f.parts) : e = f := by
  have h1 : e.b = f.b := congrArg Prod.fst h
  have h2 : e.sh = f.sh := congrArg Prod.snd h
  have p := P2_pos e.b
  obtain ⟨b, wd, below⟩ := e
  obtain ⟨b', wd', below'⟩ := f
  dsimp only at h1
  subst h1
  rcases sh_cases oe with ⟨a1, a2, a3⟩ | ⟨a1, a2, a3⟩ | ⟨a1, a2, a3, a4⟩ <;> rcases sh_cases of with ⟨b1, b2, b3⟩ | ⟨b1, b2, b3⟩ | ⟨b1, b2, b3, b4⟩ <;> dsimp only at *
  · rw [a1, b1, a2, b2]
  · omega
  · omega
  · omega
  · rw [a1, b1, a2, b2]
  · omega
  · omega
  · omega
  · have : wd = wd' := P2_inj (by omega)
    rw [a1, b1, this]
theorem row_eff {e : Ef} (o : e.Ok) : effOf e.row = e := by
  obtain ⟨h1, h2, h3, h4⟩ := o
  obtain ⟨b, wd, below⟩ := e
  dsimp only at *
  unfold Ef.row
  split
  · rename_i h
    dsimp only at h
    subst h
    show (Es.init ⟨wd, below⟩).fin = _
    unfold Es.init Es.fin
    cases below <;> simp
  · rename_i h
    dsimp only at h
    show ((Es.init ⟨b, true⟩).step ⟨wd, false⟩).fin = _
    have es : (Es.init ⟨b, true⟩).step ⟨wd, false⟩ = ⟨b, wd, wd, false⟩ := by
      unfold Es.step Es.init
      dsimp only
      rw [if_neg (by omega), if_neg (by omega), if_pos ⟨rfl, rfl⟩]
    rw [es]
    unfold Es.fin
    cases below
    · simp
    · exact absurd (h3 rfl) h
theorem row_ok {e : Ef} (o : e.Ok) : ∀ k ∈ e.row, k.Ok := by
  obtain ⟨h1, h2, h3, h4⟩ := o
  unfold Ef.row
  split
  · intro k hk
    rw [List.mem_singleton] at hk
    subst hk
    exact ⟨h1, by dsimp only; omega⟩
  · intro k hk
    rcases List.mem_cons.mp hk with rfl | hk
    · exact ⟨h1, by dsimp only; omega⟩
    · rw [List.mem_singleton] at hk
      subst hk
      exact ⟨by dsimp only; omega, h4⟩
theorem row_ne (e : Ef) : e.row ≠ [] := by
  unfold Ef.row
  split <;> intro h <;> cases h
theorem row_len (e : Ef) : e.row.length = if e.wd = e.b then 1 else 2 := by
  unfold Ef.row
  split <;> rfl
theorem row_cast {e : Ef} (o : e.Ok) (n : Int) : castL e.row n = e.fn n := by
  rw [← effOf_fn (row_ne e) (row_ok o), row_eff o]

/-! ### two effects that part, part at a mark -/
theorem fn_at_half {e : Ef} (o : e.Ok) {n : Int} (h : n % P2 e.b = P2 (e.b - 1)) : e.fn n ≠ 0 := by
  have hb := P2_pred o.b1
  have p := P2_pos (e.b - 1)
  unfold Ef.fn
  rw [h, if_neg (by omega)]
  rcases sh_cases o with ⟨_, _, a3⟩ | ⟨_, _, a3⟩ | ⟨_, _, a3, a4⟩ <;> omega
theorem fn_at_zero (e : Ef) (_o : e.Ok) {n : Int} (h : n % P2 e.b = 0) : e.fn n = 0 := by
  have p := P2_pos (e.b - 1)
  unfold Ef.fn
  rw [h, if_pos (by omega)]
theorem half_mod {b : Nat} (h : 1 ≤ b) : P2 (b - 1) % P2 b = P2 (b - 1) ∧ (- P2 (b - 1)) % P2 b = P2 (b - 1) := by
  have hb := P2_pred h
  have p := P2_pos (b - 1)
  exact ⟨mod_eq (q := 0) (by omega) (by omega) (by omega), mod_eq (q := -1) (by omega) (by omega) (by omega)⟩
theorem up_mod {a b : Nat} (h : a ≤ b) : P2 b % P2 a = 0 ∧ (- P2 b) % P2 a = 0 := by
  have s := P2_split h
  have p := P2_pos a
  refine ⟨mod_eq (q := P2 (b - a)) (by omega) (by omega) (by omega), mod_eq (q := - P2 (b - a)) ?_ (by omega) (by omega)⟩
  rw [Int.mul_neg, ← s]; omega
/-- unlike effects part at the half of the longer one, or at its negative -/
theorem part_le {e f : Ef} (oe : e.Ok) (of : f.Ok) (h : e.parts ≠ f.parts) (hb : e.b ≤ f.b) : e.fn (P2 (f.b - 1)) ≠ f.fn (P2 (f.b - 1)) ∧ e.fn (- P2 (f.b - 1)) ≠ f.fn (- P2 (f.b - 1)) := by
  obtain ⟨m1, m2⟩ := half_mod of.b1
  have f1 := fn_at_half of m1
  have f2 := fn_at_half of m2
  by_cases c : e.b = f.b
  · have hs : e.sh ≠ f.sh := fun z => h (by unfold Ef.parts; rw [c, z])
    have hb := P2_pred of.b1
    have p := P2_pos (f.b - 1)
    unfold Ef.fn
    rw [c, m1, m2, if_neg (by omega), if_neg (by omega)]
    omega
  · obtain ⟨u1, u2⟩ := up_mod (a := e.b) (b := f.b - 1) (by omega)
    rw [fn_at_zero e oe u1, fn_at_zero e oe u2]
    exact ⟨Ne.symm f1, Ne.symm f2⟩
theorem part_at {e f : Ef} (oe : e.Ok) (of : f.Ok) (h : e.parts ≠ f.parts) : e.fn (P2 (max e.b f.b - 1)) ≠ f.fn (P2 (max e.b f.b - 1)) ∧ e.fn (- P2 (max e.b f.b - 1)) ≠ f.fn (- P2 (max e.b f.b - 1)) := by
  by_cases c : e.b ≤ f.b
  · rw [Nat.max_eq_right c]
    exact part_le oe of h c
  · rw [Nat.max_eq_left (by omega)]
    obtain ⟨a, b⟩ := part_le of oe (Ne.symm h) (by omega)
    exact ⟨Ne.symm a, Ne.symm b⟩
/-- .. and so at a mark of the kind's range: a power of two, or the least value -/
theorem part_in {k : Kd} (hk : k.Ok) {e f : Ef} (oe : e.Ok) (of : f.Ok) (h : e.parts ≠ f.parts) (be : e.b ≤ k.w) (bf : f.b ≤ k.w) :
    e.fn (lo k) ≠ f.fn (lo k) ∨ ∃ i, i < 128 ∧ lo k ≤ P2 i ∧ P2 i ≤ hi k ∧ e.fn (P2 i) ≠ f.fn (P2 i) := by
  obtain ⟨a, b⟩ := part_at oe of h
  have h1 : 1 ≤ max e.b f.b := by have := oe.b1; omega
  obtain ⟨hl, hp⟩ := lo_cases k hk.1
  have p := P2_pos (k.w - 1)
  have p2 := P2_pos (max e.b f.b - 1)
  have hk2 := hk.2
  by_cases c : k.s = true ∧ max e.b f.b = k.w
  · left
    rcases hl with ⟨_, hl⟩ | ⟨hs, _⟩
    · rw [hl, ← c.2]; exact b
    · rw [hs] at c; exact absurd c.1 (by decide)
  · right
    refine ⟨max e.b f.b - 1, by omega, ?_, ?_, a⟩
    · rcases hl with ⟨_, hl⟩ | ⟨_, hl⟩ <;> omega
    · unfold hi
      rcases hl with ⟨hs, hl⟩ | ⟨_, hl⟩
      · have c2 : max e.b f.b ≠ k.w := fun z => c ⟨hs, z⟩
        have := P2_lt (a := max e.b f.b - 1) (b := k.w - 1) (by omega)
        omega
      · have := P2_le (a := max e.b f.b - 1) (b := k.w - 1) (by omega)
        omega
/-- equal as functions on the kind's values: equal parts -/
theorem parts_of_fn {k : Kd} (hk : k.Ok) {e f : Ef} (oe : e.Ok) (of : f.Ok) (be : e.b ≤ k.w) (bf : f.b ≤ k.w) (h : ∀ n, lo k ≤ n → n ≤ hi k → e.fn n = f.fn n) : e.parts = f.parts := by
  refine Decidable.byContradiction fun c => ?_
  have p := P2_pos k.w
  rcases part_in hk oe of c be bf with g | ⟨i, _, h1, h2, g⟩
  · exact g (h _ (Int.le_refl _) (by unfold hi; omega))
  · exact g (h _ h1 h2)
theorem parts_of_all {e f : Ef} (oe : e.Ok) (of : f.Ok) (h : ∀ n, e.fn n = f.fn n) : e.parts = f.parts := by
  refine Decidable.byContradiction fun c => ?_
  exact (part_at oe of c).1 (h _)

/-! ### what a row returns -/
def Ef.r1 (e : Ef) : Int × Int := (0, P2 (e.b - 1) - 1)
def Ef.r2 (e : Ef) : Int × Int := (P2 (e.b - 1) + e.sh, P2 e.b - 1 + e.sh)
def Ef.image (e : Ef) : List (Int × Int) := [e.r1, e.r2]
def inR (p : Int × Int) (n : Int) : Prop := p.1 ≤ n ∧ n ≤ p.2
instance (p : Int × Int) (n : Int) : Decidable (inR p n) := by unfold inR; exact inferInstance
def Ef.rest (e : Ef) (y : Int) : Option Int := if inR e.r1 y then some y else if inR e.r2 y then some (y - e.sh) else none
theorem r1_iff {e : Ef} {y : Int} : inR e.r1 y ↔ 0 ≤ y ∧ y ≤ P2 (e.b - 1) - 1 := Iff.rfl
theorem r2_iff {e : Ef} {y : Int} : inR e.r2 y ↔ P2 (e.b - 1) + e.sh ≤ y ∧ y ≤ P2 e.b - 1 + e.sh := Iff.rfl
theorem image_apart {e : Ef} (o : e.Ok) (n : Int) : ¬ (inR e.r1 n ∧ inR e.r2 n) := by
  have hb := P2_pred o.b1
  have p := P2_pos (e.b - 1)
  rw [r1_iff, r2_iff]
  rcases sh_cases o with ⟨_, _, a3⟩ | ⟨_, _, a3⟩ | ⟨_, _, a3, a4⟩ <;> omega
theorem rest_fn {e : Ef} (o : e.Ok) {y r : Int} (h : e.rest y = some r) : 0 ≤ r ∧ r < P2 e.b ∧ ∀ n, n % P2 e.b = r → e.fn n = y := by
  have hb := P2_pred o.b1
  have p := P2_pos (e.b - 1)
  unfold Ef.rest at h
  split at h
  · rename_i g
    rw [r1_iff] at g
    cases h
    refine ⟨by omega, by omega, fun n hn => ?_⟩
    unfold Ef.fn
    rw [hn, if_pos (by omega)]
  · split at h
    · rename_i g
      rw [r2_iff] at g
      cases h
      refine ⟨by omega, by omega, fun n hn => ?_⟩
      unfold Ef.fn
      rw [hn, if_neg (by omega)]
      omega
    · cases h
theorem fn_rest {e : Ef} (o : e.Ok) (n : Int) : e.rest (e.fn n) = some (n % P2 e.b) := by
  have hb := P2_pred o.b1
  have p := P2_pos (e.b - 1)
  obtain ⟨q, -, h0, h1⟩ := mod_split n (P2_pos e.b)
  unfold Ef.fn
  split
  · unfold Ef.rest
    rw [if_pos (r1_iff.mpr (by omega))]
  · have z := image_apart o (n % P2 e.b + e.sh)
    have i2 : inR e.r2 (n % P2 e.b + e.sh) := r2_iff.mpr (by omega)
    unfold Ef.rest
    rw [if_neg (fun i => z ⟨i, i2⟩), if_pos i2]
    congr 1; omega
theorem rest_none {e : Ef} {y : Int} : e.rest y = none ↔ ¬ (inR e.r1 y ∨ inR e.r2 y) := by
  unfold Ef.rest
  split
  · simp [*]
  · split
    · simp [*]
    · simp [*]
theorem rest_in {e : Ef} {y : Int} : (∃ r, e.rest y = some r) ↔ (inR e.r1 y ∨ inR e.r2 y) := by
  unfold Ef.rest
  split
  · simp [*]
  · split
    · simp [*]
    · simp [*]
theorem sh_mul {e : Ef} (o : e.Ok) : ∃ c, e.sh = P2 e.b * c := by
  rcases sh_cases o with ⟨_, _, a3⟩ | ⟨_, _, a3⟩ | ⟨_, h, a3, a4⟩
  · exact ⟨-1, by omega⟩
  · exact ⟨0, by omega⟩
  · exact ⟨P2 (e.wd - e.b) - 1, by rw [Int.mul_sub, ← P2_split (by omega)]; omega⟩
/-- what a row returns stays as it is -/
theorem fixed_iff {e : Ef} (o : e.Ok) (n : Int) : e.fn n = n ↔ inR e.r1 n ∨ inR e.r2 n := by
  rw [← rest_in]
  constructor
  · intro h
    have := fn_rest o n
    rw [h] at this
    exact ⟨_, this⟩
  · rintro ⟨r, h⟩
    obtain ⟨h0, h1, k⟩ := rest_fn o h
    refine k n ?_
    obtain ⟨c, hc⟩ := sh_mul o
    unfold Ef.rest at h
    split at h
    · cases h
      exact mod_eq (q := 0) (by omega) h0 h1
    · split at h
      · cases h
        exact mod_eq (q := c) (by omega) h0 h1
      · cases h


/-! ### ranges put together -/
def joinStep (found : List (Int × Int)) (p : Int × Int) : List (Int × Int) :=
  if p.1 ≤ p.2 ∧ found ≠ [] ∧ (found.getLast?.getD (0, 0)).2 + 1 = p.1 then found.dropLast ++ [((found.getLast?.getD (0, 0)).1, p.2)]
  else if p.1 ≤ p.2 then found ++ [p] else found
def joinR (ps : List (Int × Int)) : List (Int × Int) := ps.foldl joinStep []
structure Told (l : List (Int × Int)) (S : Int → Prop) : Prop where
  ne : ∀ p ∈ l, p.1 ≤ p.2
  gap : l.Pairwise fun p q => p.2 + 1 < q.1
  iff : ∀ n, S n ↔ ∃ p ∈ l, inR p n
def sizes (l : List (Int × Int)) : Int := (l.map fun p => p.2 - p.1 + 1).sum
def lexLe (p q : Int × Int) : Prop := p.1 < q.1 ∨ (p.1 = q.1 ∧ p.2 ≤ q.2)
theorem joinR_two {a b : Int × Int} (h : lexLe a b) (d : ∀ n, ¬ (inR a n ∧ inR b n)) : Told (joinR [a, b]) (fun n => inR a n ∨ inR b n) ∧ (a.1 ≤ a.2 → b.1 ≤ b.2 → sizes (joinR [a, b]) = (a.2 - a.1 + 1) + (b.2 - b.1 + 1)) := by
  have d1 := d b.1
  unfold inR at d1
  unfold lexLe at h
  by_cases ha : a.1 ≤ a.2
  · have e1 : joinStep [] a = [a] := by unfold joinStep; simp [ha]
    by_cases hb : b.1 ≤ b.2
    · by_cases hj : a.2 + 1 = b.1
      · have e2 : joinR [a, b] = [(a.1, b.2)] := by
          show joinStep (joinStep [] a) b = _
          rw [e1]; unfold joinStep; simp [hb, hj]
        rw [e2]
        refine ⟨⟨?_, ?_, fun n => ?_⟩, fun _ _ => ?_⟩
        · intro p hp; rw [List.mem_singleton] at hp; subst hp; dsimp only; omega
        · simp
        · unfold inR; simp; omega
        · unfold sizes; simp; omega
      · have e2 : joinR [a, b] = [a, b] := by
          show joinStep (joinStep [] a) b = _
          rw [e1]; unfold joinStep; simp [hb, hj]
        rw [e2]
        refine ⟨⟨?_, ?_, fun n => ?_⟩, fun _ _ => ?_⟩
        · intro p hp
          rcases List.mem_cons.mp hp with rfl | hp
          · exact ha
          · rw [List.mem_singleton] at hp; subst hp; exact hb
        · simp; omega
        · simp
        · unfold sizes; simp
    · have e2 : joinR [a, b] = [a] := by
        show joinStep (joinStep [] a) b = _
        rw [e1]; unfold joinStep; simp [hb]
      rw [e2]
      refine ⟨⟨?_, ?_, fun n => ?_⟩, fun _ z => absurd z hb⟩
      · intro p hp; rw [List.mem_singleton] at hp; subst hp; exact ha
      · simp
      · unfold inR; simp; omega
  · have e1 : joinStep [] a = [] := by unfold joinStep; simp [ha]
    by_cases hb : b.1 ≤ b.2
    · have e2 : joinR [a, b] = [b] := by
        show joinStep (joinStep [] a) b = _
        rw [e1]; unfold joinStep; simp [hb]
      rw [e2]
      refine ⟨⟨?_, ?_, fun n => ?_⟩, fun z _ => absurd z ha⟩
      · intro p hp; rw [List.mem_singleton] at hp; subst hp; exact hb
      · simp
      · unfold inR; simp; omega
    · have e2 : joinR [a, b] = [] := by
        show joinStep (joinStep [] a) b = _
        rw [e1]; unfold joinStep; simp [hb]
      rw [e2]
      refine ⟨⟨?_, ?_, fun n => ?_⟩, fun z _ => absurd z ha⟩
      · intro p hp; cases hp
      · simp
      · unfold inR; simp; omega
theorem Told.swap {l : List (Int × Int)} {S T : Int → Prop} (t : Told l S) (h : ∀ n, S n ↔ T n) : Told l T := ⟨t.ne, t.gap, fun n => (h n).symm.trans (t.iff n)⟩
/-- two ranges, sorted in whatever way -/
theorem joinR_sorted {a b : Int × Int} {ys : List (Int × Int)} (hp : ys.Perm [a, b]) (hs : ys.Pairwise lexLe) (d : ∀ n, ¬ (inR a n ∧ inR b n)) :
    Told (joinR ys) (fun n => inR a n ∨ inR b n) ∧ (a.1 ≤ a.2 → b.1 ≤ b.2 → sizes (joinR ys) = (a.2 - a.1 + 1) + (b.2 - b.1 + 1)) := by
  have hl := hp.length_eq
  match ys, hl with
  | [c, e], _ =>
    have hc : lexLe c e := by simpa using hs
    have m1 : c = a ∨ c = b := by
      have := hp.mem_iff (a := c)
      simpa using this.mp (by simp)
    have hcase : (c = a ∧ e = b) ∨ (c = b ∧ e = a) := by
      rcases m1 with rfl | rfl
      · left
        have h2 := (List.perm_cons c).mp hp
        have := List.perm_singleton.mp h2
        simpa using this
      · right
        have h2 : [c, e].Perm [c, a] := hp.trans (List.Perm.swap _ _ _)
        have h3 := (List.perm_cons c).mp h2
        have := List.perm_singleton.mp h3
        simpa using this
    rcases hcase with ⟨rfl, rfl⟩ | ⟨rfl, rfl⟩
    · exact joinR_two hc d
    · obtain ⟨t, z⟩ := joinR_two hc (fun n i => d n ⟨i.2, i.1⟩)
      exact ⟨t.swap fun n => Or.comm, fun x y => by rw [z y x]; omega⟩
theorem pair_cases {α : Type} {R : α → α → Prop} : ∀ {l : List α}, l.Pairwise R → ∀ {p q : α}, p ∈ l → q ∈ l → p = q ∨ R p q ∨ R q p
  | [], _, _, _, h, _ => nomatch h
  | x :: l, hp, p, q, h1, h2 => by
    obtain ⟨a, b⟩ := List.pairwise_cons.mp hp
    rcases List.mem_cons.mp h1 with e1 | h1 <;> rcases List.mem_cons.mp h2 with e2 | h2
    · exact .inl (e1.trans e2.symm)
    · exact .inr (.inl (by rw [e1]; exact a _ h2))
    · exact .inr (.inr (by rw [e2]; exact a _ h1))
    · exact pair_cases b h1 h2
theorem Told.beside {l : List (Int × Int)} {S : Int → Prop} (t : Told l S) {p : Int × Int} (h : p ∈ l) : S p.1 ∧ S p.2 ∧ ¬ S (p.1 - 1) ∧ ¬ S (p.2 + 1) := by
  have hp := t.ne p h
  refine ⟨(t.iff _).mpr ⟨p, h, Int.le_refl _, hp⟩, (t.iff _).mpr ⟨p, h, hp, Int.le_refl _⟩, fun z => ?_, fun z => ?_⟩
  · obtain ⟨q, hq, i⟩ := (t.iff _).mp z
    have hq2 := t.ne q hq
    unfold inR at i
    rcases pair_cases t.gap h hq with rfl | g | g <;> omega
  · obtain ⟨q, hq, i⟩ := (t.iff _).mp z
    have hq2 := t.ne q hq
    unfold inR at i
    rcases pair_cases t.gap h hq with rfl | g | g <;> omega
/-- a told list is sorted, and its only sorted arrangement is itself -/
theorem lex_anti {p q : Int × Int} (h : lexLe p q) (g : lexLe q p) : p = q := by
  unfold lexLe at h g
  obtain ⟨a, b⟩ := p
  obtain ⟨c, d⟩ := q
  dsimp only at *
  have : a = c := by omega
  have : b = d := by omega
  subst_vars; rfl
theorem lex_of : ∀ {l : List (Int × Int)}, (∀ p ∈ l, p.1 ≤ p.2) → l.Pairwise (fun p q => p.2 + 1 < q.1) → l.Pairwise lexLe
  | [], _, _ => .nil
  | p :: l, h1, h2 => by
    obtain ⟨a, b⟩ := List.pairwise_cons.mp h2
    refine List.pairwise_cons.mpr ⟨fun q hq => ?_, lex_of (fun q hq => h1 q (List.mem_cons_of_mem _ hq)) b⟩
    have := a q hq
    have := h1 p (List.mem_cons_self ..)
    exact .inl (by omega)
theorem Told.lex {l : List (Int × Int)} {S : Int → Prop} (t : Told l S) : l.Pairwise lexLe := lex_of t.ne t.gap
theorem sorted_same {ys l : List (Int × Int)} (hp : ys.Perm l) (h1 : ys.Pairwise lexLe) (h2 : l.Pairwise lexLe) : ys = l :=
  List.Perm.eq_of_pairwise (le := lexLe) (fun _ _ _ _ h g => lex_anti h g) h1 h2 hp

/-! ### survivors, results -/
def clip (k : Kd) (p : Int × Int) : Int × Int := (max p.1 (lo k), min p.2 (hi k))
theorem clip_in {k : Kd} {p : Int × Int} {n : Int} : inR (clip k p) n ↔ inR p n ∧ lo k ≤ n ∧ n ≤ hi k := by
  unfold inR clip
  dsimp only
  omega
theorem told_survivors {k : Kd} {e : Ef} (o : e.Ok) {ys : List (Int × Int)} (hp : ys.Perm [clip k e.r1, clip k e.r2]) (hs : ys.Pairwise lexLe) : Told (joinR ys) (fun n => (lo k ≤ n ∧ n ≤ hi k) ∧ e.fn n = n) := by
  refine (joinR_sorted hp hs fun n i => ?_).1.swap fun n => ?_
  · rw [clip_in, clip_in] at i
    exact image_apart o n ⟨i.1.1, i.2.1⟩
  · rw [clip_in, clip_in, fixed_iff o]
    constructor
    · rintro (⟨a, b⟩ | ⟨a, b⟩)
      · exact ⟨b, .inl a⟩
      · exact ⟨b, .inr a⟩
    · rintro ⟨b, a | a⟩
      · exact .inl ⟨a, b⟩
      · exact .inr ⟨a, b⟩
theorem told_results {e : Ef} (o : e.Ok) {ys : List (Int × Int)} (hp : ys.Perm [e.r1, e.r2]) (hs : ys.Pairwise lexLe) : Told (joinR ys) (fun n => (e.rest n).isSome = true) ∧ sizes (joinR ys) = P2 e.b := by
  have hb := P2_pred o.b1
  have p := P2_pos (e.b - 1)
  obtain ⟨t, z⟩ := joinR_sorted hp hs (image_apart o)
  refine ⟨t.swap fun n => ?_, ?_⟩
  · rw [← rest_in, Option.isSome_iff_exists]
  · rw [z (by unfold Ef.r1; dsimp only; omega) (by unfold Ef.r2; dsimp only; omega)]
    unfold Ef.r1 Ef.r2
    dsimp only
    omega

/-! ### origins -/
def many (k : Kd) (e : Ef) : Int := P2 (k.w - e.b)
def origin (k : Kd) (e : Ef) (r j : Int) : Int := lo k + (r - lo k) % P2 e.b + j * P2 e.b
theorem many_mul {k : Kd} {e : Ef} (h : e.b ≤ k.w) : many k e * P2 e.b = P2 k.w := by
  unfold many
  rw [P2_split h, Int.mul_comm]
theorem origin_ok {k : Kd} {e : Ef} (o : e.Ok) (hb : e.b ≤ k.w) {y r j : Int} (hr : e.rest y = some r) (h0 : 0 ≤ j) (h1 : j < many k e) :
    lo k ≤ origin k e r j ∧ origin k e r j ≤ hi k ∧ e.fn (origin k e r j) = y := by
  obtain ⟨r0, r1, hk⟩ := rest_fn o hr
  obtain ⟨q, e1, m0, m1⟩ := mod_split (r - lo k) (P2_pos e.b)
  have p := P2_pos e.b
  have hm := many_mul hb
  have j1 : j * P2 e.b ≤ (many k e - 1) * P2 e.b := Int.mul_le_mul_of_nonneg_right (by omega) (by omega)
  rw [Int.sub_mul, hm] at j1
  have j0 : 0 ≤ j * P2 e.b := Int.mul_nonneg h0 (by omega)
  unfold origin hi
  refine ⟨by omega, by omega, hk _ ?_⟩
  refine mod_eq (q := j - q) ?_ r0 r1
  rw [Int.mul_sub, Int.mul_comm (P2 e.b) j]
  omega
theorem origin_lt {k : Kd} {e : Ef} {r i j : Int} (h : i < j) : origin k e r i < origin k e r j := by
  have p := P2_pos e.b
  have : i * P2 e.b < j * P2 e.b := Int.mul_lt_mul_of_pos_right h p
  unfold origin
  omega

/-! ### where two rows part -/
/-- a place: the last bits of the longer effect, one block for each pair of sides -/
def isPlace (e : Ef) (n side : Int) : Bool := decide (side * P2 (e.b - 1) ≤ n ∧ n < (side + 1) * P2 (e.b - 1))
def begins (e f : Ef) (i j : Int) : Int := i * (P2 (e.b - 1) + e.sh) - j * f.sh
def block (e f : Ef) (i j : Int) : List (Int × Int) := if isPlace f (begins e f i j) j = true then [(begins e f i j, begins e f i j + P2 (e.b - 1) - 1)] else []
def places (e f : Ef) : List (Int × Int) := block e f 0 0 ++ block e f 0 1 ++ block e f 1 0 ++ block e f 1 1
def below1 (p : Int) (n : Int) (r : Int × Int) : Int := (n / p) * (r.2 - r.1 + 1) + max 0 (min (n % p) (r.2 + 1) - r.1)
def alikeB (p : Int) (l : List (Int × Int)) (n : Int) : Int := (l.map (below1 p n)).sum
def ind (c : Prop) [Decidable c] : Int := if c then 1 else 0
theorem ind_t {c : Prop} [Decidable c] (h : c) : ind c = 1 := if_pos h
theorem ind_f {c : Prop} [Decidable c] (h : ¬ c) : ind c = 0 := if_neg h
theorem below1_step {p : Int} (hp : 0 < p) {r : Int × Int} (h0 : 0 ≤ r.1) (h1 : r.1 ≤ r.2) (h2 : r.2 < p) (n : Int) : below1 p (n + 1) r = below1 p n r + ind (inR r (n % p)) := by
  obtain ⟨q, e, m0, m1⟩ := mod_split n hp
  have hd : n / p = q := by
    have e2 := Int.emod_add_mul_ediv n p
    have e3 : p * (n / p) = p * q := by omega
    exact Int.eq_of_mul_eq_mul_left (by omega) e3
  have hi : inR r (n % p) ↔ r.1 ≤ n % p ∧ n % p ≤ r.2 := Iff.rfl
  unfold below1
  by_cases c : n % p + 1 < p
  · have em : (n + 1) % p = n % p + 1 := mod_eq (q := q) (by omega) (by omega) c
    have ed : (n + 1) / p = q := by
      have e2 := Int.emod_add_mul_ediv (n + 1) p
      have e3 : p * ((n + 1) / p) = p * q := by omega
      exact Int.eq_of_mul_eq_mul_left (by omega) e3
    rw [em, ed, hd]
    by_cases z : inR r (n % p)
    · rw [ind_t z]; rw [hi] at z; omega
    · rw [ind_f z]; rw [hi] at z; omega
  · have em : (n + 1) % p = 0 := mod_eq (q := q + 1) (by rw [Int.mul_add]; omega) (by omega) hp
    have ed : (n + 1) / p = q + 1 := by
      have e2 := Int.emod_add_mul_ediv (n + 1) p
      have e3 : p * ((n + 1) / p) = p * (q + 1) := by rw [Int.mul_add]; omega
      exact Int.eq_of_mul_eq_mul_left (by omega) e3
    rw [em, ed, hd, Int.add_mul]
    by_cases z : inR r (n % p)
    · rw [ind_t z]; rw [hi] at z; omega
    · rw [ind_f z]; rw [hi] at z; omega
theorem alikeB_step {p : Int} (hp : 0 < p) : ∀ {l : List (Int × Int)}, (∀ r ∈ l, 0 ≤ r.1 ∧ r.1 ≤ r.2 ∧ r.2 < p) → ∀ n, alikeB p l (n + 1) = alikeB p l n + (l.map fun r => ind (inR r (n % p))).sum
  | [], _, n => by simp [alikeB]
  | r :: l, h, n => by
    have h1 := h r (List.mem_cons_self ..)
    have ih := alikeB_step hp (l := l) (fun r hr => h r (List.mem_cons_of_mem _ hr)) n
    unfold alikeB at *
    simp only [List.map_cons, List.sum_cons]
    rw [ih, below1_step hp h1.1 h1.2.1 h1.2.2]
    omega
theorem mul_step {h a b : Int} (hp : 0 < h) (hl : h * b - h < h * a) : h * b ≤ h * a := by
  have h1 : h * (b - 1) < h * a := by rw [Int.mul_sub]; omega
  have h2 := Int.lt_of_mul_lt_mul_left h1 (by omega)
  exact Int.mul_le_mul_of_nonneg_left (by omega) (by omega)
theorem mul_close {h a b : Int} (hp : 0 < h) (h1 : h * a < h * b + h) (h2 : h * b < h * a + h) : a = b := by
  have g1 : h * a < h * (b + 1) := by rw [Int.mul_add]; omega
  have g2 : h * b < h * (a + 1) := by rw [Int.mul_add]; omega
  have l1 := Int.lt_of_mul_lt_mul_left g1 (by omega)
  have l2 := Int.lt_of_mul_lt_mul_left g2 (by omega)
  omega
/-- the shape of a block's begin -/
theorem begins_shape {e f : Ef} (oe : e.Ok) (of : f.Ok) (hb : e.b ≤ f.b) (i j : Int) : ∃ t, begins e f i j = i * P2 (e.b - 1) + P2 e.b * t := by
  obtain ⟨c, hc⟩ := sh_mul oe
  obtain ⟨d, hd⟩ := sh_mul of
  refine ⟨i * c - j * (P2 (f.b - e.b) * d), ?_⟩
  have s := P2_split hb
  unfold begins
  rw [hc, hd, s, Int.mul_sub, Int.mul_add, Int.mul_assoc (P2 e.b), Int.mul_left_comm j, Int.mul_left_comm i]
  omega
theorem half_mul {e f : Ef} (oe : e.Ok) (hb : e.b ≤ f.b) : ∃ t, P2 (f.b - 1) = P2 (e.b - 1) * t ∧ 1 ≤ t := ⟨P2 (f.b - e.b), by
  have := P2_split (a := e.b - 1) (b := f.b - 1) (by omega)
  rw [this]
  congr 2
  have := oe.b1
  omega, P2_one_le _⟩
theorem block_place {e f : Ef} (oe : e.Ok) (of : f.Ok) (hb : e.b ≤ f.b) {i j : Int} (hp : isPlace f (begins e f i j) j = true) :
    j * P2 (f.b - 1) ≤ begins e f i j ∧ begins e f i j + P2 (e.b - 1) - 1 < (j + 1) * P2 (f.b - 1) := by
  have hq := of_decide_eq_true hp
  refine ⟨hq.1, ?_⟩
  obtain ⟨t, ht⟩ := begins_shape oe of hb i j
  obtain ⟨u, hu, _⟩ := half_mul oe hb
  have p := P2_pos (e.b - 1)
  have p2 := P2_pred oe.b1
  have hq2 := hq.2
  have e1 : begins e f i j = P2 (e.b - 1) * (i + 2 * t) := by rw [ht, p2, Int.mul_add, Int.mul_comm i, ← Int.mul_assoc (P2 (e.b - 1)), Int.mul_comm (P2 (e.b - 1)) 2]
  have e2 : (j + 1) * P2 (f.b - 1) = P2 (e.b - 1) * ((j + 1) * u) := by rw [hu, Int.mul_left_comm]
  rw [e1, e2] at hq2 ⊢
  have := mul_step (h := P2 (e.b - 1)) (a := (j + 1) * u - 1) (b := i + 2 * t) p (by rw [Int.mul_sub]; omega)
  rw [Int.mul_sub] at this
  omega
def side (e : Ef) (n : Int) : Int := if n % P2 e.b < P2 (e.b - 1) then 0 else 1
theorem side_fn (e : Ef) (n : Int) : e.fn n = n % P2 e.b + side e n * e.sh := by
  unfold Ef.fn side
  split <;> omega
theorem side_in {e : Ef} (o : e.Ok) (n : Int) : (side e n = 0 ∨ side e n = 1) ∧ side e n * P2 (e.b - 1) ≤ n % P2 e.b ∧ n % P2 e.b < side e n * P2 (e.b - 1) + P2 (e.b - 1) := by
  obtain ⟨q, -, m0, m1⟩ := mod_split n (P2_pos e.b)
  have hb := P2_pred o.b1
  unfold side
  split <;> omega
theorem side_of {e : Ef} (o : e.Ok) {n i : Int} (hi : i = 0 ∨ i = 1) (h0 : i * P2 (e.b - 1) ≤ n % P2 e.b) (h1 : n % P2 e.b < i * P2 (e.b - 1) + P2 (e.b - 1)) : i = side e n := by
  have hb := P2_pred o.b1
  unfold side
  rcases hi with rfl | rfl <;> split <;> omega
/-- a block holds just the last bits where both tell the same, of these sides -/
theorem block_iff {e f : Ef} (oe : e.Ok) (of : f.Ok) (hb : e.b ≤ f.b) {i j : Int} (hi : i = 0 ∨ i = 1) (hj : j = 0 ∨ j = 1) (n : Int) :
    (isPlace f (begins e f i j) j = true ∧ inR (begins e f i j, begins e f i j + P2 (e.b - 1) - 1) (n % P2 f.b)) ↔ (i = side e n ∧ j = side f n ∧ e.fn n = f.fn n) := by
  have p := P2_pos (e.b - 1)
  have pe := P2_pos e.b
  have p2 := P2_pred oe.b1
  obtain ⟨t, ht⟩ := begins_shape oe of hb i j
  -- the last bits of both
  obtain ⟨q, eq, r0, r1⟩ := mod_split (n % P2 f.b) pe
  have er : n % P2 f.b % P2 e.b = n % P2 e.b := Int.emod_emod_of_dvd n ⟨P2 (f.b - e.b), P2_split hb⟩
  rw [er] at eq r0 r1
  unfold inR
  dsimp only
  constructor
  · rintro ⟨hp, g0, g1⟩
    obtain ⟨b0, b1⟩ := block_place oe of hb hp
    have ej : j = side f n := side_of of hj (by omega) (by rw [Int.add_mul] at b1; omega)
    have etq : t = q := by
      refine mul_close pe ?_ ?_ <;> rcases hi with rfl | rfl <;> omega
    have ei : i = side e n := side_of oe hi (by rw [etq] at ht; omega) (by rw [etq] at ht; omega)
    refine ⟨ei, ej, ?_⟩
    rw [side_fn, side_fn, ← ei, ← ej]
    rw [etq] at ht
    unfold begins at ht
    rw [Int.mul_add] at ht
    omega
  · rintro ⟨ei, ej, h⟩
    rw [side_fn, side_fn, ← ei, ← ej] at h
    obtain ⟨_, s0, s1⟩ := side_in oe n
    obtain ⟨_, z0, z1⟩ := side_in of n
    rw [← ei] at s0 s1
    rw [← ej] at z0 z1
    have hbg : begins e f i j = n % P2 f.b - (n % P2 e.b - i * P2 (e.b - 1)) := by
      unfold begins
      rw [Int.mul_add]
      omega
    refine ⟨decide_eq_true ⟨?_, ?_⟩, by omega, by omega⟩
    · obtain ⟨u, hu, _⟩ := half_mul oe hb
      have e1 : begins e f i j = P2 (e.b - 1) * (i + 2 * t) := by rw [ht, p2, Int.mul_add, Int.mul_comm i, ← Int.mul_assoc (P2 (e.b - 1)), Int.mul_comm (P2 (e.b - 1)) 2]
      have e2 : j * P2 (f.b - 1) = P2 (e.b - 1) * (j * u) := by rw [hu, Int.mul_left_comm]
      have hlow : j * P2 (f.b - 1) - P2 (e.b - 1) < begins e f i j := by omega
      rw [e1, e2] at hlow ⊢
      exact mul_step p hlow
    · rw [Int.add_mul]; omega
theorem block_sum {e f : Ef} (oe : e.Ok) (of : f.Ok) (hb : e.b ≤ f.b) {i j : Int} (hi : i = 0 ∨ i = 1) (hj : j = 0 ∨ j = 1) (n : Int) :
    ((block e f i j).map fun r => ind (inR r (n % P2 f.b))).sum = if i = side e n ∧ j = side f n ∧ e.fn n = f.fn n then 1 else 0 := by
  have k := block_iff oe of hb hi hj n
  unfold block
  split
  · rename_i h
    simp only [List.map_cons, List.map_nil, List.sum_cons, List.sum_nil]
    unfold ind
    by_cases c : inR (begins e f i j, begins e f i j + P2 (e.b - 1) - 1) (n % P2 f.b)
    · rw [if_pos c, if_pos (k.mp ⟨h, c⟩)]; rfl
    · rw [if_neg c, if_neg (fun z => c (k.mpr z).2)]; rfl
  · rename_i h
    rw [if_neg (fun z => h (k.mpr z).1)]
    rfl
theorem block_in {e f : Ef} (oe : e.Ok) (of : f.Ok) (hb : e.b ≤ f.b) {i j : Int} (hj : j = 0 ∨ j = 1) : ∀ r ∈ block e f i j, 0 ≤ r.1 ∧ r.1 ≤ r.2 ∧ r.2 < P2 f.b := by
  intro r hr
  have p := P2_pos (e.b - 1)
  have pf := P2_pos (f.b - 1)
  have p2 := P2_pred of.b1
  unfold block at hr
  split at hr
  · rename_i h
    obtain ⟨b0, b1⟩ := block_place oe of hb h
    rw [List.mem_singleton] at hr
    subst hr
    dsimp only
    rcases hj with rfl | rfl <;> omega
  · cases hr
theorem places_in {e f : Ef} (oe : e.Ok) (of : f.Ok) (hb : e.b ≤ f.b) : ∀ r ∈ places e f, 0 ≤ r.1 ∧ r.1 ≤ r.2 ∧ r.2 < P2 f.b := by
  intro r hr
  unfold places at hr
  simp only [List.mem_append] at hr
  rcases hr with ((hr | hr) | hr) | hr
  · exact block_in oe of hb (.inl rfl) r hr
  · exact block_in oe of hb (.inr rfl) r hr
  · exact block_in oe of hb (.inl rfl) r hr
  · exact block_in oe of hb (.inr rfl) r hr
theorem places_step {e f : Ef} (oe : e.Ok) (of : f.Ok) (hb : e.b ≤ f.b) (n : Int) : alikeB (P2 f.b) (places e f) (n + 1) = alikeB (P2 f.b) (places e f) n + if e.fn n = f.fn n then 1 else 0 := by
  rw [alikeB_step (P2_pos f.b) (places_in oe of hb)]
  congr 1
  unfold places
  simp only [List.map_append, List.sum_append]
  rw [block_sum oe of hb (.inl rfl) (.inl rfl), block_sum oe of hb (.inl rfl) (.inr rfl), block_sum oe of hb (.inr rfl) (.inl rfl), block_sum oe of hb (.inr rfl) (.inr rfl)]
  obtain ⟨a, -, -⟩ := side_in oe n
  obtain ⟨b, -, -⟩ := side_in of n
  by_cases h : e.fn n = f.fn n
  · rcases a with a | a <;> rcases b with b | b <;> simp [a, b, h]
  · simp [h]

/-! ### counting -/
/-- c counts, from low on, the integers of which f is true -/
structure Cnt (low : Int) (f : Int → Prop) [DecidablePred f] (c : Int → Int) : Prop where
  low : c low = 0
  step : ∀ n, c (n + 1) = c n + ind (f n)
def countB (p : Int) (l : List (Int × Int)) (low n : Int) : Int := n - low - alikeB p l n + alikeB p l low
theorem cnt_apart {e f : Ef} (oe : e.Ok) (of : f.Ok) (hb : e.b ≤ f.b) (low : Int) : Cnt low (fun n => e.fn n ≠ f.fn n) (countB (P2 f.b) (places e f) low) := by
  refine ⟨by unfold countB; omega, fun n => ?_⟩
  unfold countB
  rw [places_step oe of hb]
  unfold ind
  by_cases h : e.fn n = f.fn n
  · rw [if_pos h, if_neg (fun z => z h)]; omega
  · rw [if_neg h, if_pos h]; omega
theorem ind_in (c : Prop) [Decidable c] : 0 ≤ ind c ∧ ind c ≤ 1 := by
  unfold ind
  split <;> omega
section
variable {low : Int} {f : Int → Prop} [DecidablePred f] {c : Int → Int}
theorem Cnt.mono_nat (h : Cnt low f c) (a : Int) : ∀ k : Nat, c a ≤ c (a + k) ∧ c (a + k) ≤ c a + k
  | 0 => by simp
  | k + 1 => by
    have ih := h.mono_nat a k
    have s := h.step (a + k)
    have i := ind_in (f (a + k))
    have e : a + ((k + 1 : Nat) : Int) = a + k + 1 := by omega
    rw [e, s]
    omega
theorem Cnt.mono (h : Cnt low f c) {a b : Int} (hab : a ≤ b) : c a ≤ c b := by
  have := (h.mono_nat a (b - a).toNat).1
  rwa [show a + ((b - a).toNat : Int) = b by omega] at this
theorem Cnt.same_nat {d : Int → Int} (h : Cnt low f c) (g : Cnt low f d) : ∀ k : Nat, c (low + k) = d (low + k)
  | 0 => by simp [h.low, g.low]
  | k + 1 => by
    have ih := h.same_nat g k
    have e : low + ((k + 1 : Nat) : Int) = low + k + 1 := by omega
    rw [e, h.step, g.step, ih]
theorem Cnt.same {d : Int → Int} (h : Cnt low f c) (g : Cnt low f d) {n : Int} (hn : low ≤ n) : c n = d n := by
  have := h.same_nat g (n - low).toNat
  rwa [show low + ((n - low).toNat : Int) = n by omega] at this
/-- number j of these: x, with j of them below it -/
structure IsAt (c : Int → Int) (j x : Int) : Prop where
  here : c x = j
  next : c (x + 1) = j + 1
theorem Cnt.at_of (h : Cnt low f c) {j x : Int} (h1 : c x ≤ j) (h2 : j < c (x + 1)) : IsAt c j x := by
  have s := h.step x
  have i := ind_in (f x)
  exact ⟨by omega, by omega⟩
theorem Cnt.at_true (h : Cnt low f c) {j x : Int} (a : IsAt c j x) : f x := by
  have s := h.step x
  rw [a.here, a.next] at s
  refine Decidable.byContradiction fun z => ?_
  unfold ind at s
  rw [if_neg z] at s
  omega
theorem Cnt.le_of (h : Cnt low f c) {x y : Int} (hc : c x < c y) : x < y := by
  refine Decidable.byContradiction fun z => ?_
  have := h.mono (a := y) (b := x) (by omega)
  omega
/-- of an integer between two neighbours f is false -/
theorem Cnt.between (h : Cnt low f c) {j x y n : Int} (a : IsAt c j x) (b : c y ≤ j + 1) (h1 : x < n) (h2 : n < y) : ¬ f n := by
  intro z
  have s := h.step n
  unfold ind at s
  rw [if_pos z] at s
  have m1 := h.mono (a := x + 1) (b := n) (by omega)
  have m2 := h.mono (a := n + 1) (b := y) (by omega)
  have := a.next
  omega
theorem Cnt.none (h : Cnt low f c) {top n : Int} (h0 : c top = 0) (h1 : low ≤ n) (h2 : n < top) : ¬ f n := by
  intro z
  have s := h.step n
  unfold ind at s
  rw [if_pos z] at s
  have m1 := h.mono (a := low) (b := n) h1
  have m2 := h.mono (a := n + 1) (b := top) (by omega)
  have := h.low
  omega
theorem Cnt.zero (h : Cnt low f c) {top : Int} (ht : low ≤ top) (h0 : ∀ n, low ≤ n → n < top → ¬ f n) : c top = 0 := by
  have key : ∀ k : Nat, low + k ≤ top → c (low + k) = 0 := by
    intro k
    induction k with
    | zero => intro _; simp [h.low]
    | succ k ih =>
      intro hk
      have e : low + ((k + 1 : Nat) : Int) = low + k + 1 := by omega
      rw [e, h.step, ih (by omega)]
      unfold ind
      rw [if_neg (h0 _ (by omega) (by omega))]
      rfl
  have := key (top - low).toNat (by omega)
  rwa [show low + ((top - low).toNat : Int) = top by omega] at this
theorem Cnt.first_le (h : Cnt low f c) {x n : Int} (a : IsAt c 0 x) (h1 : low ≤ n) (z : f n) : x ≤ n := by
  refine Decidable.byContradiction fun g => ?_
  exact h.none (top := x) a.here h1 (by omega) z
end
end Rw

namespace Fw
open PySem L2
def top (i : Nat) : Stmt := PySem.Challenge.pw_farwrap_k67_whole_far_rows_of_casts.main.body.getD i (.Pass ⟨0, 0, 0, 0⟩)
abbrev s_InvalidKind_init : Stmt := inClass (top 2) 0
abbrev s_InvalidBound_init : Stmt := inClass (top 3) 0
abbrev s_InvalidCall_init : Stmt := inClass (top 4) 0
abbrev s_LimitExceeded_init : Stmt := inClass (top 5) 0
abbrev s_is_integer : Stmt := top 7
abbrev s_is_between : Stmt := top 8
abbrev s_check_integer : Stmt := top 9
abbrev s_check_between : Stmt := top 10
abbrev s_Kind_init : Stmt := inClass (top 14) 0
abbrev s_Kind_eq : Stmt := inClass (top 14) 1
abbrev s_Kind_parts : Stmt := inClass (top 14) 2
abbrev s_check_kind : Stmt := top 15
abbrev s_size_of : Stmt := top 16
abbrev s_low_of : Stmt := top 17
abbrev s_placed : Stmt := top 18
abbrev s_cast : Stmt := top 19
abbrev s_Effect_init : Stmt := inClass (top 21) 0
abbrev s_Effect_parts : Stmt := inClass (top 21) 1
abbrev s_Effect_row : Stmt := inClass (top 21) 2
abbrev s_Effect_image : Stmt := inClass (top 21) 3
abbrev s_Effect_rest_of : Stmt := inClass (top 21) 4
abbrev s_effect_of : Stmt := top 22
abbrev s_check_row : Stmt := top 23
abbrev s_effect_for : Stmt := top 24
abbrev s_ranges_joined : Stmt := top 25
abbrev s_do_same : Stmt := top 26
abbrev s_shortest : Stmt := top 27
abbrev s_survivors : Stmt := top 28
abbrev s_survivor_total : Stmt := top 29
abbrev s_results : Stmt := top 30
abbrev s_origin_total : Stmt := top 31
abbrev s_origin_at : Stmt := top 32
abbrev s_places_alike : Stmt := top 33
abbrev s_is_place : Stmt := top 34
abbrev s_Apart_init : Stmt := inClass (top 35) 0
abbrev s_Apart_alike_below : Stmt := inClass (top 35) 1
abbrev s_Apart_count_below : Stmt := inClass (top 35) 2
abbrev s_Apart_total : Stmt := inClass (top 35) 3
abbrev s_Apart_at : Stmt := inClass (top 35) 4
abbrev s_apart_of : Stmt := top 36
abbrev s_apart_total : Stmt := top 37
abbrev s_apart_at : Stmt := top 38
abbrev s_shortest_for : Stmt := top 39
abbrev s_Lcell_at : Stmt := top 41
abbrev s_Lsource_of : Stmt := top 42
abbrev s_Lnext : Stmt := top 43
abbrev s_Lone : Stmt := top 44
abbrev s_Lwide : Stmt := top 45
abbrev s_Lput : Stmt := top 46
abbrev s_Lcast : Stmt := top 47
abbrev s_Lmade : Stmt := top 48
abbrev s_Lparts : Stmt := top 49
abbrev s_Lrange : Stmt := top 50
abbrev s_Lshape : Stmt := top 51
abbrev s_Lsaid : Stmt := top 52
abbrev s_Lrows : Stmt := top 53
abbrev s_Lsome : Stmt := top 54
abbrev s_Lis_within : Stmt := top 55
abbrev s_Lkept_right : Stmt := top 56
abbrev s_Lorigins_right : Stmt := top 57
abbrev s_Lapart_right : Stmt := top 58
abbrev s_Lhas_single : Stmt := top 59
abbrev s_Lshort_right : Stmt := top 60
abbrev s_law : Stmt := top 61
end Fw
namespace Fw
open PySem PySem.Spec PyProof.Rows L2
abbrev mkD (x : Str) (st : Stmt) : He.DefD := ⟨(x, none), x, x, defArgs st, defBody st, defScope st, [], []⟩
abbrev mkM (c m q : Str) (st : Stmt) : He.DefD := ⟨(c, some m), m, q, defArgs st, defBody st, defScope st, [], []⟩
def fn : List He.DefD := [mkM "InvalidKind" "__init__" "InvalidKind.__init__" s_InvalidKind_init,
  mkM "InvalidBound" "__init__" "InvalidBound.__init__" s_InvalidBound_init,
  mkM "InvalidCall" "__init__" "InvalidCall.__init__" s_InvalidCall_init,
  mkM "LimitExceeded" "__init__" "LimitExceeded.__init__" s_LimitExceeded_init,
  mkD "is_integer" s_is_integer,
  mkD "is_between" s_is_between,
  mkD "check_integer" s_check_integer,
  mkD "check_between" s_check_between,
  mkM "Kind" "__init__" "Kind.__init__" s_Kind_init,
  mkM "Kind" "__eq__" "Kind.__eq__" s_Kind_eq,
  mkM "Kind" "parts" "Kind.parts" s_Kind_parts,
  mkD "check_kind" s_check_kind,
  mkD "size_of" s_size_of,
  mkD "low_of" s_low_of,
  mkD "placed" s_placed,
  mkD "cast" s_cast,
  mkM "Effect" "__init__" "Effect.__init__" s_Effect_init,
  mkM "Effect" "parts" "Effect.parts" s_Effect_parts,
  mkM "Effect" "row" "Effect.row" s_Effect_row,
  mkM "Effect" "image" "Effect.image" s_Effect_image,
  mkM "Effect" "rest_of" "Effect.rest_of" s_Effect_rest_of,
  mkD "effect_of" s_effect_of,
  mkD "check_row" s_check_row,
  mkD "effect_for" s_effect_for,
  mkD "ranges_joined" s_ranges_joined,
  mkD "do_same" s_do_same,
  mkD "shortest" s_shortest,
  mkD "survivors" s_survivors,
  mkD "survivor_total" s_survivor_total,
  mkD "results" s_results,
  mkD "origin_total" s_origin_total,
  mkD "origin_at" s_origin_at,
  mkD "places_alike" s_places_alike,
  mkD "is_place" s_is_place,
  mkM "Apart" "__init__" "Apart.__init__" s_Apart_init,
  mkM "Apart" "alike_below" "Apart.alike_below" s_Apart_alike_below,
  mkM "Apart" "count_below" "Apart.count_below" s_Apart_count_below,
  mkM "Apart" "total" "Apart.total" s_Apart_total,
  mkM "Apart" "at" "Apart.at" s_Apart_at,
  mkD "apart_of" s_apart_of,
  mkD "apart_total" s_apart_total,
  mkD "apart_at" s_apart_at,
  mkD "shortest_for" s_shortest_for,
  mkD "_law_cell_at" s_Lcell_at,
  mkD "_law_source_of" s_Lsource_of,
  mkD "_law_next" s_Lnext,
  mkD "_law_one" s_Lone,
  mkD "_law_wide" s_Lwide,
  mkD "_law_put" s_Lput,
  mkD "_law_cast" s_Lcast,
  mkD "_law_made" s_Lmade,
  mkD "_law_parts" s_Lparts,
  mkD "_law_range" s_Lrange,
  mkD "_law_shape" s_Lshape,
  mkD "_law_said" s_Lsaid,
  mkD "_law_rows" s_Lrows,
  mkD "_law_some" s_Lsome,
  mkD "_law_is_within" s_Lis_within,
  mkD "_law_kept_right" s_Lkept_right,
  mkD "_law_origins_right" s_Lorigins_right,
  mkD "_law_apart_right" s_Lapart_right,
  mkD "_law_has_single" s_Lhas_single,
  mkD "_law_short_right" s_Lshort_right,
  mkD "law" s_law]
def fa : List He.Fa := [.glo "WrapError", .glo "InvalidKind", .glo "InvalidBound", .glo "InvalidCall", .glo "LimitExceeded", .glo "is_integer", .glo "is_between", .glo "check_integer", .glo "check_between", .glo "Kind", .glo "check_kind", .glo "size_of", .glo "low_of", .glo "placed", .glo "cast", .glo "Effect", .glo "effect_of", .glo "check_row", .glo "effect_for", .glo "ranges_joined", .glo "do_same", .glo "shortest", .glo "survivors", .glo "survivor_total", .glo "results", .glo "origin_total", .glo "origin_at", .glo "places_alike", .glo "is_place", .glo "Apart", .glo "apart_of", .glo "apart_total", .glo "apart_at", .glo "shortest_for", .glo "_law_cell_at", .glo "_law_source_of", .glo "_law_next", .glo "_law_one", .glo "_law_wide", .glo "_law_put", .glo "_law_cast", .glo "_law_made", .glo "_law_parts", .glo "_law_range", .glo "_law_shape", .glo "_law_said", .glo "_law_rows", .glo "_law_some", .glo "_law_is_within", .glo "_law_kept_right", .glo "_law_origins_right", .glo "_law_apart_right", .glo "_law_has_single", .glo "_law_short_right", .glo "law", .free "len", .free "isinstance", .free "int", .free "bool", .free "list", .free "all", .free "min", .free "max", .free "sum", .free "sorted", .free "enumerate", .free "range", .free "set", .free "ArithmeticError", .int "MOST_BITS" 128, .int "MOST_KINDS" 20, .cls "Kind", .mkr "Kind", .noat "Kind" "bits", .noat "Kind" "is_signed", .meth "Kind" "parts", .meth "Kind" "__eq__", .cls "Effect", .mkr "Effect", .noat "Effect" "bits", .noat "Effect" "width", .noat "Effect" "is_below", .noat "Effect" "shift", .meth "Effect" "parts", .meth "Effect" "row", .meth "Effect" "image", .meth "Effect" "rest_of", .cls "Apart", .mkr "Apart", .noat "Apart" "low", .noat "Apart" "size", .noat "Apart" "period", .noat "Apart" "alike", .meth "Apart" "alike_below", .meth "Apart" "count_below", .meth "Apart" "total", .meth "Apart" "at"]
def tf : List He.Defn := [("_law_origins_right", none)]
abbrev aeT : List Value := [.type "ArithmeticError", .type "Exception", .type "BaseException", .type "object"]
/-- one fact of the written part, by a Bool -/
def isO (a b : Option (Option Value)) : Bool := decide (a = b)
def isB (a : Option Bool) (b : Bool) : Bool := decide (a = some b)
def insB (K : PySem.W.Frag) (C : Addr) : List Bool := [isO (PySem.W.findIn K (.ref C) "__class__") (some (some (.builtin "object.__class__"))), isO (PySem.W.specialIn K (.builtin "object.__class__") "__get__") (some (some (.builtin "getset_descriptor.__get__"))),
  isB (PySem.W.takesIn K (.builtin "object.__class__")) true, isB (PySem.W.mroIn K C (.type "object")) true, isB (PySem.W.kitOne K (.ref C) (.ref C)) true]
def excB (K : PySem.W.Frag) (W B D1 D2 D3 : Addr) : List Bool := [PySem.W.excInitIn K B aeT "ArithmeticError.__new__", PySem.W.excOver K B aeT, PySem.W.hasDictIn K B, isO (PySem.W.findIn K (.ref B) "__setattr__") (some (some (.builtin "object.__setattr__"))),
  isB (PySem.W.subIn K (.ref B) (.type "BaseException")) true, decide (PySem.W.typeIn K (.ref B) = some (.type "type")), PySem.W.keepIn K (.ref B), isO (PySem.W.findIn K (.ref B) "argument") (some none),
  isO (PySem.W.findIn K (.ref B) "__init__") (some (some (.ref (He.ma K B "__init__")))), decide (PySem.W.typeIn K (.ref (He.ma K B "__init__")) = some (.type "function")),
  PySem.W.readsIn K W (.type "type"), isO (PySem.W.specialIn K (.ref W) "__getattribute__") (some (some (.builtin "type.__getattribute__"))), (match PySem.W.findCls K (.ref W) (.type "type") "__init__" with
    | some (.val (.builtin n)) => decide (n = "ArithmeticError.__init__")
    | _ => false),
  isB (PySem.W.exmOne K (.ref B) (.ref W)) true, isB (PySem.W.kitOne K (.ref B) (.ref B)) true, isB (PySem.W.kitOne K (.ref B) (.ref D1)) false, isB (PySem.W.kitOne K (.ref B) (.ref D2)) false, isB (PySem.W.kitOne K (.ref B) (.ref D3)) false,
  isB (PySem.W.kitOne K (.ref B) (.type "ArithmeticError")) true, isO (PySem.W.findIn K (.ref B) "__getattribute__") (some (some (.builtin "BaseException.__getattribute__"))), isO (PySem.W.findIn K (.ref B) "__getattr__") (some none),
  isO (PySem.W.findIn K (.ref B) "__class__") (some (some (.builtin "object.__class__"))), isB (PySem.W.mroIn K B (.type "object")) true, (PySem.W.clsIn K B).isSome]
def ex (K : PySem.W.Frag) : Bool := (insB K (He.ga K "Kind")).all id && (excB K (He.ga K "WrapError") (He.ga K "InvalidBound") (He.ga K "InvalidKind") (He.ga K "InvalidCall") (He.ga K "LimitExceeded")).all id
/-- what the program's top has left -/
structure Tx (K : PySem.W.Frag) (mg : Str → Option Value) : Prop where
  says : He.SaysD fa fn K
  ins_ : ∃ h : Heap, K.In h ∧ h.Ns mainGlobals mg
  ex : ex K = true
section
variable {P : Program} {w : World} {K : PySem.W.Frag} {mg : Str → Option Value} {base : Heap}
theorem Tx.glo (T : Tx K mg) (j : Nat) {x : Str} (h : fa[j]? = some (.glo x)) : mg x = some (.ref (He.ga K x)) := by
  obtain ⟨h0, X, G⟩ := T.ins_
  exact He.glo_ok X G (T.says.fact j h)
theorem Tx.no (T : Tx K mg) (j : Nat) {x : Str} (h : fa[j]? = some (.free x)) : mg x = none := by
  obtain ⟨h0, X, G⟩ := T.ins_
  exact He.free_ok X G (T.says.fact j h)
theorem Tx.int_ (T : Tx K mg) (j : Nat) {x : Str} {i : Int} (h : fa[j]? = some (.int x i)) : ∃ u, mg x = some u ∧ RelV (.int i) u := by
  obtain ⟨h0, X, G⟩ := T.ins_
  obtain ⟨t, e⟩ := He.int_ok X G (T.says.fact j h)
  exact ⟨_, e, t, rfl⟩
/-- the promise of a def -/
theorem Tx.cal (T : Tx K mg) (i j : Nat) {x : Str} {st : Stmt} {N ps : List Str} {k : Nat} {sp : Sp} (hi : fn[i]? = some (mkD x st)) (hj : fa[j]? = some (.glo x)) (S : FnScope N ps (defScope st)) (len : ∀ vs H Q E, sp vs H Q E → vs.length = ps.length)
    (bnd : ∀ (kV doc pm : Value) (an : Option Addr) (cdv ct : Value) (us : List Value), us.length = ps.length → bindArgs (PySem.W.fnOf x x (defArgs st) (defBody st) (defScope st) .none kV doc pm an cdv ct) ⟨us, []⟩ = pure (ps.zip us))
    (hbody : ∀ (cdv : Value) (A : Around) (outer : List Env) (s : Shared) (H : Hp) (vs : List V) (Q : VK) (E : XK), Room k (A.deeper (envOfC x (defScope st) s.heap.objs.size (He.ga K x) cdv)) → sp vs H Q E →
      ∃ t, PSs (cxOf CX0 P w K mg base N x (defScope st) (He.ga K x) cdv A outer s H E).nox (defBody st) t ∧ t { nx := fun _ H' => Q .non H', rt := Q } (start N vs) H) : C8.Cal P w K mg base (k + 1) x sp [] := by
  obtain ⟨fd, F⟩ := T.says.def_ i hi
  have F' : FunD K x x (defArgs st) (defBody st) (defScope st) [] [] (He.ga K x) fd := F
  refine ⟨_, fd, ps, [], F'.ok S len fun cdv A outer s H vs Q E hr h => ?_, T.glo j hj, F'.kp, F'.bindsN bnd, .nil⟩
  obtain ⟨t, ht, q⟩ := hbody cdv A outer s H vs Q E hr h
  exact ⟨t, PSs.nox ht, q⟩
theorem Tx.met (T : Tx K mg) (i j l : Nat) {c m q : Str} {st : Stmt} {N ps : List Str} {k : Nat} {sp : Sp} (hi : fn[i]? = some (mkM c m q st)) (hj : fa[j]? = some (.cls c)) (hl : fa[l]? = some (.meth c m)) (S : FnScope N ps (defScope st)) (len : ∀ vs H Q E, sp vs H Q E → vs.length = ps.length)
    (bnd : ∀ (kV doc pm : Value) (an : Option Addr) (cdv ct : Value) (us : List Value), us.length = ps.length → bindArgs (PySem.W.fnOf m q (defArgs st) (defBody st) (defScope st) .none kV doc pm an cdv ct) ⟨us, []⟩ = pure (ps.zip us))
    (hbody : ∀ (cdv : Value) (A : Around) (outer : List Env) (s : Shared) (H : Hp) (vs : List V) (Q : VK) (E : XK), Room k (A.deeper (envOfC q (defScope st) s.heap.objs.size (He.ma K (He.ga K c) m) cdv)) → sp vs H Q E →
      ∃ t, PSs (cxOf CX0 P w K mg base N q (defScope st) (He.ma K (He.ga K c) m) cdv A outer s H E).nox (defBody st) t ∧ t { nx := fun _ H' => Q .non H', rt := Q } (start N vs) H) : C8.Met P w K mg base (k + 1) (He.ga K c) m sp [] := by
  obtain ⟨fd, F⟩ := T.says.def_ i hi
  have F' : FunD K m q (defArgs st) (defBody st) (defScope st) [] [] (He.ma K (He.ga K c) m) fd := F
  refine ⟨_, fd, ps, [], He.cls_ok (T.says.fact j hj), He.meth_ok (T.says.fact l hl), F'.ok S len fun cdv A outer s H vs Q E hr h => ?_, F'.bindsN bnd, .nil⟩
  obtain ⟨t, ht, q⟩ := hbody cdv A outer s H vs Q E hr h
  exact ⟨t, PSs.nox ht, q⟩
theorem Tx.mak (T : Tx K mg) (i j l : Nat) {c q : Str} {st : Stmt} {N ps : List Str} {k : Nat} {sp : Sp} (hi : fn[i]? = some (mkM c "__init__" q st)) (hj : fa[j]? = some (.mkr c)) (hl : fa[l]? = some (.glo c)) (S : FnScope N ps (defScope st)) (len : ∀ vs H Q E, sp vs H Q E → vs.length = ps.length)
    (bnd : ∀ (kV doc pm : Value) (an : Option Addr) (cdv ct : Value) (us : List Value), us.length = ps.length → bindArgs (PySem.W.fnOf "__init__" q (defArgs st) (defBody st) (defScope st) .none kV doc pm an cdv ct) ⟨us, []⟩ = pure (ps.zip us))
    (hbody : ∀ (cdv : Value) (A : Around) (outer : List Env) (s : Shared) (H : Hp) (vs : List V) (Q : VK) (E : XK), Room k (A.deeper (envOfC q (defScope st) s.heap.objs.size (He.ma K (He.ga K c) "__init__") cdv)) → sp vs H Q E →
      ∃ t, PSs (cxOf CX0 P w K mg base N q (defScope st) (He.ma K (He.ga K c) "__init__") cdv A outer s H E).nox (defBody st) t ∧ t { nx := fun _ H' => Q .non H', rt := Q } (start N vs) H) : C8.Mak P w K mg base (k + 1) c (He.ga K c) sp [] := by
  obtain ⟨fd, F⟩ := T.says.def_ i hi
  have F' : FunD K "__init__" q (defArgs st) (defBody st) (defScope st) [] [] (He.ma K (He.ga K c) "__init__") fd := F
  refine ⟨_, fd, ps, [], He.mkr_ok (T.says.fact j hj), F'.ok S len fun cdv A outer s H vs Q E hr h => ?_, T.glo l hl, F'.bindsN bnd, .nil⟩
  obtain ⟨t, ht, q⟩ := hbody cdv A outer s H vs Q E hr h
  exact ⟨t, PSs.nox ht, q⟩
theorem Tx.g_WrapError (T : Tx K mg) : mg "WrapError" = some (.ref (He.ga K "WrapError")) := T.glo 0 rfl
theorem Tx.g_InvalidKind (T : Tx K mg) : mg "InvalidKind" = some (.ref (He.ga K "InvalidKind")) := T.glo 1 rfl
theorem Tx.g_InvalidBound (T : Tx K mg) : mg "InvalidBound" = some (.ref (He.ga K "InvalidBound")) := T.glo 2 rfl
theorem Tx.g_InvalidCall (T : Tx K mg) : mg "InvalidCall" = some (.ref (He.ga K "InvalidCall")) := T.glo 3 rfl
theorem Tx.g_LimitExceeded (T : Tx K mg) : mg "LimitExceeded" = some (.ref (He.ga K "LimitExceeded")) := T.glo 4 rfl
theorem Tx.g_is_integer (T : Tx K mg) : mg "is_integer" = some (.ref (He.ga K "is_integer")) := T.glo 5 rfl
theorem Tx.g_is_between (T : Tx K mg) : mg "is_between" = some (.ref (He.ga K "is_between")) := T.glo 6 rfl
theorem Tx.g_check_integer (T : Tx K mg) : mg "check_integer" = some (.ref (He.ga K "check_integer")) := T.glo 7 rfl
theorem Tx.g_check_between (T : Tx K mg) : mg "check_between" = some (.ref (He.ga K "check_between")) := T.glo 8 rfl
theorem Tx.g_Kind (T : Tx K mg) : mg "Kind" = some (.ref (He.ga K "Kind")) := T.glo 9 rfl
theorem Tx.g_check_kind (T : Tx K mg) : mg "check_kind" = some (.ref (He.ga K "check_kind")) := T.glo 10 rfl
theorem Tx.g_size_of (T : Tx K mg) : mg "size_of" = some (.ref (He.ga K "size_of")) := T.glo 11 rfl
theorem Tx.g_low_of (T : Tx K mg) : mg "low_of" = some (.ref (He.ga K "low_of")) := T.glo 12 rfl
theorem Tx.g_placed (T : Tx K mg) : mg "placed" = some (.ref (He.ga K "placed")) := T.glo 13 rfl
theorem Tx.g_cast (T : Tx K mg) : mg "cast" = some (.ref (He.ga K "cast")) := T.glo 14 rfl
theorem Tx.g_Effect (T : Tx K mg) : mg "Effect" = some (.ref (He.ga K "Effect")) := T.glo 15 rfl
theorem Tx.g_effect_of (T : Tx K mg) : mg "effect_of" = some (.ref (He.ga K "effect_of")) := T.glo 16 rfl
theorem Tx.g_check_row (T : Tx K mg) : mg "check_row" = some (.ref (He.ga K "check_row")) := T.glo 17 rfl
theorem Tx.g_effect_for (T : Tx K mg) : mg "effect_for" = some (.ref (He.ga K "effect_for")) := T.glo 18 rfl
theorem Tx.g_ranges_joined (T : Tx K mg) : mg "ranges_joined" = some (.ref (He.ga K "ranges_joined")) := T.glo 19 rfl
theorem Tx.g_do_same (T : Tx K mg) : mg "do_same" = some (.ref (He.ga K "do_same")) := T.glo 20 rfl
theorem Tx.g_shortest (T : Tx K mg) : mg "shortest" = some (.ref (He.ga K "shortest")) := T.glo 21 rfl
theorem Tx.g_survivors (T : Tx K mg) : mg "survivors" = some (.ref (He.ga K "survivors")) := T.glo 22 rfl
theorem Tx.g_survivor_total (T : Tx K mg) : mg "survivor_total" = some (.ref (He.ga K "survivor_total")) := T.glo 23 rfl
theorem Tx.g_results (T : Tx K mg) : mg "results" = some (.ref (He.ga K "results")) := T.glo 24 rfl
theorem Tx.g_origin_total (T : Tx K mg) : mg "origin_total" = some (.ref (He.ga K "origin_total")) := T.glo 25 rfl
theorem Tx.g_origin_at (T : Tx K mg) : mg "origin_at" = some (.ref (He.ga K "origin_at")) := T.glo 26 rfl
theorem Tx.g_places_alike (T : Tx K mg) : mg "places_alike" = some (.ref (He.ga K "places_alike")) := T.glo 27 rfl
theorem Tx.g_is_place (T : Tx K mg) : mg "is_place" = some (.ref (He.ga K "is_place")) := T.glo 28 rfl
theorem Tx.g_Apart (T : Tx K mg) : mg "Apart" = some (.ref (He.ga K "Apart")) := T.glo 29 rfl
theorem Tx.g_apart_of (T : Tx K mg) : mg "apart_of" = some (.ref (He.ga K "apart_of")) := T.glo 30 rfl
theorem Tx.g_apart_total (T : Tx K mg) : mg "apart_total" = some (.ref (He.ga K "apart_total")) := T.glo 31 rfl
theorem Tx.g_apart_at (T : Tx K mg) : mg "apart_at" = some (.ref (He.ga K "apart_at")) := T.glo 32 rfl
theorem Tx.g_shortest_for (T : Tx K mg) : mg "shortest_for" = some (.ref (He.ga K "shortest_for")) := T.glo 33 rfl
theorem Tx.g_law_cell_at (T : Tx K mg) : mg "_law_cell_at" = some (.ref (He.ga K "_law_cell_at")) := T.glo 34 rfl
theorem Tx.g_law_source_of (T : Tx K mg) : mg "_law_source_of" = some (.ref (He.ga K "_law_source_of")) := T.glo 35 rfl
theorem Tx.g_law_next (T : Tx K mg) : mg "_law_next" = some (.ref (He.ga K "_law_next")) := T.glo 36 rfl
theorem Tx.g_law_one (T : Tx K mg) : mg "_law_one" = some (.ref (He.ga K "_law_one")) := T.glo 37 rfl
theorem Tx.g_law_wide (T : Tx K mg) : mg "_law_wide" = some (.ref (He.ga K "_law_wide")) := T.glo 38 rfl
theorem Tx.g_law_put (T : Tx K mg) : mg "_law_put" = some (.ref (He.ga K "_law_put")) := T.glo 39 rfl
theorem Tx.g_law_cast (T : Tx K mg) : mg "_law_cast" = some (.ref (He.ga K "_law_cast")) := T.glo 40 rfl
theorem Tx.g_law_made (T : Tx K mg) : mg "_law_made" = some (.ref (He.ga K "_law_made")) := T.glo 41 rfl
theorem Tx.g_law_parts (T : Tx K mg) : mg "_law_parts" = some (.ref (He.ga K "_law_parts")) := T.glo 42 rfl
theorem Tx.g_law_range (T : Tx K mg) : mg "_law_range" = some (.ref (He.ga K "_law_range")) := T.glo 43 rfl
theorem Tx.g_law_shape (T : Tx K mg) : mg "_law_shape" = some (.ref (He.ga K "_law_shape")) := T.glo 44 rfl
theorem Tx.g_law_said (T : Tx K mg) : mg "_law_said" = some (.ref (He.ga K "_law_said")) := T.glo 45 rfl
theorem Tx.g_law_rows (T : Tx K mg) : mg "_law_rows" = some (.ref (He.ga K "_law_rows")) := T.glo 46 rfl
theorem Tx.g_law_some (T : Tx K mg) : mg "_law_some" = some (.ref (He.ga K "_law_some")) := T.glo 47 rfl
theorem Tx.g_law_is_within (T : Tx K mg) : mg "_law_is_within" = some (.ref (He.ga K "_law_is_within")) := T.glo 48 rfl
theorem Tx.g_law_kept_right (T : Tx K mg) : mg "_law_kept_right" = some (.ref (He.ga K "_law_kept_right")) := T.glo 49 rfl
theorem Tx.g_law_origins_right (T : Tx K mg) : mg "_law_origins_right" = some (.ref (He.ga K "_law_origins_right")) := T.glo 50 rfl
theorem Tx.g_law_apart_right (T : Tx K mg) : mg "_law_apart_right" = some (.ref (He.ga K "_law_apart_right")) := T.glo 51 rfl
theorem Tx.g_law_has_single (T : Tx K mg) : mg "_law_has_single" = some (.ref (He.ga K "_law_has_single")) := T.glo 52 rfl
theorem Tx.g_law_short_right (T : Tx K mg) : mg "_law_short_right" = some (.ref (He.ga K "_law_short_right")) := T.glo 53 rfl
theorem Tx.g_law (T : Tx K mg) : mg "law" = some (.ref (He.ga K "law")) := T.glo 54 rfl
theorem Tx.n_len (T : Tx K mg) : mg "len" = none := T.no 55 rfl
theorem Tx.n_isinstance (T : Tx K mg) : mg "isinstance" = none := T.no 56 rfl
theorem Tx.n_int (T : Tx K mg) : mg "int" = none := T.no 57 rfl
theorem Tx.n_bool (T : Tx K mg) : mg "bool" = none := T.no 58 rfl
theorem Tx.n_list (T : Tx K mg) : mg "list" = none := T.no 59 rfl
theorem Tx.n_all (T : Tx K mg) : mg "all" = none := T.no 60 rfl
theorem Tx.n_min (T : Tx K mg) : mg "min" = none := T.no 61 rfl
theorem Tx.n_max (T : Tx K mg) : mg "max" = none := T.no 62 rfl
theorem Tx.n_sum (T : Tx K mg) : mg "sum" = none := T.no 63 rfl
theorem Tx.n_sorted (T : Tx K mg) : mg "sorted" = none := T.no 64 rfl
theorem Tx.n_enumerate (T : Tx K mg) : mg "enumerate" = none := T.no 65 rfl
theorem Tx.n_range (T : Tx K mg) : mg "range" = none := T.no 66 rfl
theorem Tx.n_set (T : Tx K mg) : mg "set" = none := T.no 67 rfl
theorem Tx.n_ArithmeticError (T : Tx K mg) : mg "ArithmeticError" = none := T.no 68 rfl
theorem Tx.MOST_BITS (T : Tx K mg) : ∃ u, mg "MOST_BITS" = some u ∧ RelV (.int 128) u := T.int_ 69 rfl
theorem Tx.MOST_KINDS (T : Tx K mg) : ∃ u, mg "MOST_KINDS" = some u ∧ RelV (.int 20) u := T.int_ 70 rfl
theorem Tx.cK (T : Tx K mg) : Cls K (He.ga K "Kind") := He.cls_ok (T.says.fact 71 rfl)
theorem Tx.K_bits (T : Tx K mg) : NoAttr K (He.ga K "Kind") "bits" := He.noat_ok (T.says.fact 73 rfl)
theorem Tx.K_is_signed (T : Tx K mg) : NoAttr K (He.ga K "Kind") "is_signed" := He.noat_ok (T.says.fact 74 rfl)
theorem Tx.cE (T : Tx K mg) : Cls K (He.ga K "Effect") := He.cls_ok (T.says.fact 77 rfl)
theorem Tx.E_bits (T : Tx K mg) : NoAttr K (He.ga K "Effect") "bits" := He.noat_ok (T.says.fact 79 rfl)
theorem Tx.E_width (T : Tx K mg) : NoAttr K (He.ga K "Effect") "width" := He.noat_ok (T.says.fact 80 rfl)
theorem Tx.E_is_below (T : Tx K mg) : NoAttr K (He.ga K "Effect") "is_below" := He.noat_ok (T.says.fact 81 rfl)
theorem Tx.E_shift (T : Tx K mg) : NoAttr K (He.ga K "Effect") "shift" := He.noat_ok (T.says.fact 82 rfl)
theorem Tx.cA (T : Tx K mg) : Cls K (He.ga K "Apart") := He.cls_ok (T.says.fact 87 rfl)
theorem Tx.A_low (T : Tx K mg) : NoAttr K (He.ga K "Apart") "low" := He.noat_ok (T.says.fact 89 rfl)
theorem Tx.A_size (T : Tx K mg) : NoAttr K (He.ga K "Apart") "size" := He.noat_ok (T.says.fact 90 rfl)
theorem Tx.A_period (T : Tx K mg) : NoAttr K (He.ga K "Apart") "period" := He.noat_ok (T.says.fact 91 rfl)
theorem Tx.A_alike (T : Tx K mg) : NoAttr K (He.ga K "Apart") "alike" := He.noat_ok (T.says.fact 92 rfl)
theorem Tx.exs (T : Tx K mg) : (∀ b ∈ insB K (He.ga K "Kind"), b = true) ∧ ∀ b ∈ excB K (He.ga K "WrapError") (He.ga K "InvalidBound") (He.ga K "InvalidKind") (He.ga K "InvalidCall") (He.ga K "LimitExceeded"), b = true := by
  have h := T.ex
  unfold ex at h
  obtain ⟨h1, h2⟩ := Bool.and_eq_true_iff.mp h
  exact ⟨fun b hb => List.all_eq_true.mp h1 b hb, fun b hb => List.all_eq_true.mp h2 b hb⟩
theorem isO_ok {a b : Option (Option Value)} (h : isO a b = true) : a = b := of_decide_eq_true h
theorem isB_ok {a : Option Bool} {b : Bool} (h : isB a b = true) : a = some b := of_decide_eq_true h
theorem Tx.insI (T : Tx K mg) (i : Nat) {b : Bool} (h : (insB K (He.ga K "Kind"))[i]? = some b) : b = true := T.exs.1 b (List.mem_of_getElem? h)
theorem Tx.excI (T : Tx K mg) (i : Nat) {b : Bool} (h : (excB K (He.ga K "WrapError") (He.ga K "InvalidBound") (He.ga K "InvalidKind") (He.ga K "InvalidCall") (He.ga K "LimitExceeded"))[i]? = some b) : b = true := T.exs.2 b (List.mem_of_getElem? h)
theorem Tx.ins (T : Tx K mg) : C8.InsC K (He.ga K "Kind") := ⟨T.cK, isO_ok (T.insI 0 rfl), isO_ok (T.insI 1 rfl), isB_ok (T.insI 2 rfl), isB_ok (T.insI 3 rfl), isB_ok (T.insI 4 rfl)⟩
end
theorem boot_len_ : bootBuiltins "len" = some (.builtin "len") := by decide +kernel
theorem boot_isinstance_ : bootBuiltins "isinstance" = some (.builtin "isinstance") := by decide +kernel
theorem boot_int_ : bootBuiltins "int" = some (.type "int") := by decide +kernel
theorem boot_bool_ : bootBuiltins "bool" = some (.type "bool") := by decide +kernel
theorem boot_list_ : bootBuiltins "list" = some (.type "list") := by decide +kernel
theorem boot_all_ : bootBuiltins "all" = some (.builtin "all") := by decide +kernel
theorem boot_min_ : bootBuiltins "min" = some (.builtin "min") := by decide +kernel
theorem boot_max_ : bootBuiltins "max" = some (.builtin "max") := by decide +kernel
theorem boot_sum_ : bootBuiltins "sum" = some (.builtin "sum") := by decide +kernel
theorem boot_sorted_ : bootBuiltins "sorted" = some (.builtin "sorted") := by decide +kernel
theorem boot_enumerate_ : bootBuiltins "enumerate" = some (.type "enumerate") := by decide +kernel
theorem boot_range_ : bootBuiltins "range" = some (.type "range") := by decide +kernel
theorem boot_set_ : bootBuiltins "set" = some (.type "set") := by decide +kernel
theorem boot_ArithmeticError_ : bootBuiltins "ArithmeticError" = some (.type "ArithmeticError") := by decide +kernel
theorem boot_isinst : bootBuiltins "isinstance" = some (.builtin "isinstance") := boot_isinstance_
end Fw

namespace Fw
open PySem PySem.Spec PyProof.Rows L2
/-- what is looked at: all that the module's names reach, and the statics' names -/
def reach (g : Addr → Option Obj) : List Addr := cStatics :: He.asD g 6
def part (g : Addr → Option Obj) : PySem.W.Frag := He.frT g (reach g)
abbrev Tell : Type := He.AlD × Bool
def tell (fa : List He.Fa) (fn : List He.DefD) (ex : PySem.W.Frag → Bool) (tf : List He.Defn) (g : Addr → Option Obj) : Tell := (He.obsD fa fn (part g), ex (part g) && He.tabsB g tf (part g))
/-- what is told of the written part K -/
structure Told_ (fa : List He.Fa) (fn : List He.DefD) (ex : PySem.W.Frag → Bool) (tf : List He.Defn) (h : Heap) (K : PySem.W.Frag) : Prop where
  says : He.SaysD fa fn K
  ex : ex K = true
  hd : ∀ p ∈ tf, PySem.W.codeHdIn K (He.cT K p).1 (He.cT K p).2 = true
  out : ∀ p ∈ tf, K.lookup (He.cT K p).2 = none
  empty : ∀ p ∈ tf, h.get? (He.cT K p).2 = some { cls := .none, data := .fields #[] }
theorem told_of {fa : List He.Fa} {fn : List He.DefD} {ex : PySem.W.Frag → Bool} {tf : List He.Defn} {h : Heap} (e : tell fa fn ex tf h.get? = (He.valD fn, true)) : Told_ fa fn ex tf h (part h.get?) := by
  obtain ⟨e1, e2⟩ := Prod.mk.inj e
  obtain ⟨e3, e4⟩ := Bool.and_eq_true_iff.mp e2
  have key : ∀ p ∈ tf, PySem.W.codeHdIn (part h.get?) (He.cT (part h.get?) p).1 (He.cT (part h.get?) p).2 = true ∧ ∃ o, h.get? (He.cT (part h.get?) p).2 = some o ∧ He.emptyTab o = true := fun p hp => by
    obtain ⟨z1, z2⟩ := Bool.and_eq_true_iff.mp (List.all_eq_true.mp e4 p hp)
    cases q : h.get? (He.cT (part h.get?) p).2 with
    | none => rw [q] at z2; cases z2
    | some o => rw [q] at z2; exact ⟨z1, o, rfl, z2⟩
  refine ⟨e1, e3, fun p hp => (key p hp).1, fun p hp => ?_, fun p hp => ?_⟩
  · obtain ⟨_, o, q, z⟩ := key p hp
    exact He.frT_none q z
  · obtain ⟨_, o, q, z⟩ := key p hp
    rw [q, He.emptyTab_eq z]
def hook (fa : List He.Fa) (fn : List He.DefD) (ex : PySem.W.Frag → Bool) (tf : List He.Defn) : PySem.W.Hook where
  α := Tell
  obs := fun s => tell fa fn ex tf s.heap.get?
  val := fun _ => (He.valD fn, true)
  says := fun _ h => ∃ K : PySem.W.Frag, K.In h ∧ Told_ fa fn ex tf h K
  of := fun _ _ e => ⟨_, He.frT_in, told_of e⟩
  keeps := fun _ _ _ ⟨K, hK, c⟩ k => ⟨K, PySem.W.Frag.In.keeps hK k, ⟨c.says, c.ex, c.hd, c.out, fun p hp => k _ _ (c.empty p hp)⟩⟩
abbrev R : PySem.W.OpenRow := PySem.W.OpenLaw.row PySem.Challenge.rw_farwrap_k67_whole_far_rows_of_casts
abbrev hk : PySem.W.Hook := hook fa fn ex tf
def ob (s : PySem.W.SharedT) : Tell := tell fa fn ex tf (HandSHeadRun.getT s)
theorem ob_eq (s : PySem.W.SharedT) : ob s = hk.obs s.abs := by
  have e : HandSHeadRun.getT s = s.abs.heap.get? := funext (HandSHeadRun.getT_eq s)
  show tell fa fn ex tf (HandSHeadRun.getT s) = tell fa fn ex tf s.abs.heap.get?
  rw [e]
def names0 : List PySem.Str := ["WrapError", "InvalidKind", "InvalidBound", "InvalidCall", "LimitExceeded", "is_integer", "is_between", "check_integer", "check_between", "MOST_BITS", "MOST_KINDS", "Kind", "check_kind", "size_of", "low_of", "placed", "cast", "Effect", "effect_of", "check_row", "effect_for", "ranges_joined", "do_same", "shortest", "survivors", "survivor_total", "results", "origin_total", "origin_at", "places_alike"]
def names1 : List PySem.Str := ["is_place", "Apart", "apart_of", "apart_total", "apart_at", "shortest_for", "_law_cell_at", "_law_source_of", "_law_next", "_law_one", "_law_wide", "_law_put", "_law_cast", "_law_made", "_law_parts", "_law_range", "_law_shape", "_law_said", "_law_rows", "_law_some", "_law_is_within", "_law_kept_right", "_law_origins_right", "_law_apart_right", "_law_has_single", "_law_short_right"]
def names : List PySem.Str := names0 ++ names1
set_option maxHeartbeats 0 in
theorem run (w : World) : HandSHeadRun.RunEq R (PySem.W.view R.prog [61]) hk ob 20000 names w := by
  intro os
  kernel_rfl
end Fw

/-! Rules that the layer lacks: != of two lists whose items are seen to be equal, a chain of three comparisons, set(a list of ints), count(True). -/
namespace FwR
open PySem PySem.SeqAt
open AutoSeq1 (wpAny_loadPart')
open MeetsSeq MeetsSeq2 MeetsSeq3 SeqRoads2 GQ
section
variable {prog : Program} {w : World} {A : Around} {R : Result → Shared → Prop}
/-- from place i on: all the rest is equal, so != ends with False -/
theorem ne_rest (l b : Addr) (N : Nat) (I : Nat → Shared → Prop) (hl : ListI prog w A (fun e s' => R (.error e) s') l b N I) (fin : ∀ s, I N s → R (.ok (.ret (.bool false))) s) :
    ∀ k i : Nat, N - i = k → i ≤ N → ∀ s, I i s → wpAny (model prog w) A.in1 (Builtin.«list.__eq__.loop» ⟨[.ref l, .ref b, rawInt i, rawInt 3], []⟩) (FinOf prog w A R) (fun e s' => R (.error e) s') s
  | 0, i, hk, hi, s, h => by
    obtain ⟨us, vs, n, n2, hu, hv, z1, z2, _⟩ := hl _ _ h
    have hi' : i = N := by omega
    have hR : R (.ok (.ret (.bool false))) s := fin s (hi' ▸ h)
    obtain ⟨hp, g, d, tk, os⟩ := s
    wp_walk using wpAny_loadPart' hu, wpAny_loadPart' hv
    have n1 : us[((i : Nat) : Int).toNat]? = none := by simp; omega
    have n2 : vs[((i : Nat) : Int).toNat]? = none := by simp; omega
    rw [n1, n2]
    wp_walk using wpAny_loadPart' hu, wpAny_loadPart' hv
    show R (.ok (.ret (.bool (us.size != vs.size)))) _
    rw [z1, z2]
    simpa using hR
  | k + 1, i, hk, hi, s, h => by
    obtain ⟨us, vs, n, n2, hu, hv, z1, z2, turn⟩ := hl _ _ h
    have l1 : i < us.size := by omega
    have l2 : i < vs.size := by omega
    have ht := turn l1 l2
    obtain ⟨hp, g, d, tk, os⟩ := s
    wp_walk using wpAny_loadPart' hu, wpAny_loadPart' hv
    have g1 : us[((i : Nat) : Int).toNat]? = some us[i] := by simp [l1]
    have g2 : vs[((i : Nat) : Int).toNat]? = some vs[i] := by simp [l2]
    rw [g1, g2]
    refine wpAny_bind (wpAny_mono ht (fun r s2 z => ?_) fun _ _ x => x)
    obtain ⟨rfl, h2⟩ := z
    have again := ne_rest l b N I hl fin k (i + 1) (by omega) (by omega) s2 h2
    obtain ⟨hp2, g2', d2, tk2, os2⟩ := s2
    wp_walk
    rw [show ((i : Int) + 1) = ((i + 1 : Nat) : Int) by omega]
    refine ⟨plainId_quiet plain_eq_loop _, codeAny_builtin entry_eq_loop ?_⟩
    rw [Around.under_plainId plain_eq_loop _]
    exact again
theorem ne_same (l b : Addr) (N : Nat) (I : Nat → Shared → Prop) (hl : ListI prog w A (fun e s' => R (.error e) s') l b N I) (fin : ∀ s, I N s → R (.ok (.ret (.bool false))) s) {s : Shared} (h : I 0 s) :
    wpAny (model prog w) A.in1 (Builtin.«list.__ne__» ⟨[.ref l, .ref b], []⟩) (FinOf prog w A R) (fun e s' => R (.error e) s') s := by
  obtain ⟨us, vs, n, n2, hu, hv, z1, z2, _⟩ := hl _ _ h
  have again := ne_rest (A := A) (R := R) l b N I hl fin _ 0 rfl (Nat.zero_le _) s h
  obtain ⟨hp, g, d, tk, os⟩ := s
  have f3 := AutoSeq1.sub_list_list
  have hne : ¬ (us.size != vs.size) = true := by simp [z1, z2]
  wp_walk using wpAny_loadPart' hu, wpAny_loadPart' hv
  refine ⟨plainId_quiet plain_eq_loop _, codeAny_builtin entry_eq_loop ?_⟩
  rw [Around.under_plainId plain_eq_loop _]
  exact again
end
theorem rc_ne {prog : Program} {w : World} {A : Around} {E : Value → Shared → Prop} {s : Shared} {l b : Addr} {N : Nat} {Q : Value → Shared → Prop} (hu : A.units < cLine) (I : Nat → Shared → Prop) (hl : ListI prog w A E l b N I)
    (fin : ∀ s, I N s → Q (.bool false) s) (h : I 0 s) : wpAny (model prog w) A (richCompare .NotEq (.ref l) (.ref b)) Q E s := by
  obtain ⟨us, vs, n, n2, h1, h2, _, _, _⟩ := hl _ _ h
  refine wpAny_richCompare_same_room (op := .NotEq) ⟨_, h1, rfl⟩ ⟨_, h2, rfl⟩ F.slot_list_ne (call_here F.slot_list_ne ⟨_, h1, rfl⟩ F.entry_list_ne (F.args_list_ne_2 _ _) ?_) hu
  exact ne_same (R := wants (fun v s' => v ≠ .notImplemented ∧ Q v s') E) l b N I hl (fun s' q => ⟨(fun x => nomatch x), fin s' q⟩) h
end FwR
namespace FwR
open PySem PySem.Spec PyProof.Rows L2
section
variable {X : Cx} {n : Nat} {D : Eqv}
/-- xs != ys, the items seen to be equal one by one -/
def rNeG (D : Eqv) : R2 := fun x y H Q => DList D x y H ∧ ∀ H', Ext H H' → Q (.bl false) H'
theorem op_neG (hD : Mon D) (h : EqG X n D) (hr : Room (n + 1) X.A) : OpR X (compareOp .NotEq) (rNeG D) := by
  intro pins s σ H x y v u Q I rx ry hq
  obtain ⟨⟨a, b, xs, ys, rfl, rfl, ha, hb, p⟩, q⟩ := hq
  cases rx
  cases ry
  have sb : Sub X (n + 1) X.A := ⟨hr, rfl⟩
  show wpAny (model X.prog X.w) X.A (richCompare .NotEq (.ref a) (.ref b)) (EP X pins σ Q) X.xe s
  refine rc_ne (N := xs.length) sb.room.units0 (fun _ s' => LoopI X pins σ H s') (fun i s' z => ?_) (fun s' z => ?_) ⟨H, I, Ext.rfl'⟩
  · obtain ⟨H1, I1, e1⟩ := id z
    obtain ⟨_, its, k, r, e⟩ := I1.hok a _ (e1 _ _ ha)
    obtain ⟨_, its2, k2, r2, e2⟩ := I1.hok b _ (e1 _ _ hb)
    refine ⟨its.toArray, its2.toArray, k, k2, e, e2, by rw [List.size_toArray, ← r.length], by rw [List.size_toArray, ← r2.length, ← p.1], fun h1 h2 => ?_⟩
    exact turnG hD h sb p r r2 i h1 h2 s' z
  · obtain ⟨H1, I1, e1⟩ := z
    exact ⟨.bl false, H1, I1, rfl, q H1 e1⟩
end
/-! ### a op b op c op d, as a test -/
section
variable {X : Cx} {a b c d : Expr} {ta tb tc td : TE} {pos : Pos}
def tChain3 (r r' r'' : R2) (ta tb tc td : TE) : TT := fun σ H Q => ta σ H fun x H1 => tb σ H1 fun y H2 => r x y H2 fun z H3 => ∃ k, z = .bl k ∧
  (if k = true then tc σ H3 fun y2 H4 => r' y y2 H4 fun z2 H5 => ∃ k2, z2 = .bl k2 ∧ (if k2 = true then td σ H5 fun y3 H6 => r'' y2 y3 H6 fun z3 H7 => ∃ k3, z3 = .bl k3 ∧ Q k3 H7 else Q false H5) else Q false H3)
theorem pt_chain3 {op op' op'' : CmpOp} {r r' r'' : R2} (ho : OpR X (compareOp op) r) (ho' : OpR X (compareOp op') r') (ho'' : OpR X (compareOp op'') r'') (ha : PE X a ta) (hb : PE X b tb) (hc : PE X c tc) (hd : PE X d td)
    (hm : lastMarks [op, op', op''] [b, c, d] = false := by with_unfolding_all rfl) : PT X (.Compare a [op, op', op''] [b, c, d] pos) (tChain3 r r' r'' ta tb tc td) := by
  constructor
  intro pins s σ H Q I h
  refine isTrue_chain (thn (ha.run pins s σ H _ I h) fun v s1 z => ?_) hm
  obtain ⟨x, H1, I1, r1, q1⟩ := z
  refine test_link (thn (hb.run pins s1 σ H1 _ I1 q1) fun u s2 z => ?_)
  obtain ⟨y, H2, I2, r2, q2⟩ := z
  refine thn (ho pins s2 σ H2 x y v u _ I2 r1 r2 q2) fun d1 s3 z => ?_
  obtain ⟨z1, H3, I3, r3, k, e, q3⟩ := z
  subst e
  cases r3
  refine wpAny_truthy_bool ?_
  cases k with
  | false => exact ⟨H3, I3, q3⟩
  | true =>
    refine test_link (thn (hc.run pins s3 σ H3 _ I3 q3) fun u2 s4 z => ?_)
    obtain ⟨y2, H4, I4, r4, q4⟩ := z
    refine thn (ho' pins s4 σ H4 y y2 u u2 _ I4 r2 r4 q4) fun d2 s5 z => ?_
    obtain ⟨z2, H5, I5, r5, k2, e, q5⟩ := z
    subst e
    cases r5
    refine wpAny_truthy_bool ?_
    cases k2 with
    | false => exact ⟨H5, I5, q5⟩
    | true =>
      refine test_last (thn (hd.run pins s5 σ H5 _ I5 q5) fun u3 s6 z => ?_)
      obtain ⟨y3, H6, I6, r6, q6⟩ := z
      refine thn (ho'' pins s6 σ H6 y2 y3 u2 u3 _ I6 r4 r6 q6) fun d3 s7 z => ?_
      obtain ⟨z3, H7, I7, r7, k3, e, q7⟩ := z
      subst e
      cases r7
      exact wpAny_truthy_bool ⟨H7, I7, q7⟩
end
/-! ### count of a truth value -/
def eqb (k : Bool) (v : Value) : Bool := match v with
  | .bool b => b == k
  | _ => false
theorem bools_gives {k : Bool} {A : Around} {s : Shared} : ∀ {bs : List Bool} {us : List Value}, Vals (bs.map V.bl) us → ∀ y ∈ us, SeqAt.EqAt A s y (.bool k) (eqb k y)
  | [], _, h, y, hy => by cases h; cases hy
  | b :: bs, _, h, y, hy => by
    cases h with
    | cons h1 h2 =>
      rcases List.mem_cons.mp hy with e | e
      · subst e
        cases h1
        exact SeqAt.EqAt.bool_bool _ _
      · exact bools_gives h2 y e
theorem bools_count {k : Bool} : ∀ {bs : List Bool} {us : List Value}, Vals (bs.map V.bl) us → us.countP (eqb k) = bs.count k
  | [], _, h => by cases h; rfl
  | b :: bs, _, h => by
    cases h with
    | cons h1 h2 =>
      cases h1
      rw [List.countP_cons, List.count_cons, bools_count h2] <;> rfl
def rCntB (K : PySem.W.Frag) : V → List V → Hp → VK → Prop := fun x xs H Q => ∃ (p : Addr) (bs : List Bool) (k : Bool), x = .ref p ∧ xs = [.bl k] ∧ SqL K H p (bs.map V.bl) ∧ Q (.int (bs.count k : Nat)) H
theorem mt_countB {X : Cx} : MtR X "list.count" (rCntB X.K) := by
  intro pins s σ H x xs v us Q I rx rxs h
  obtain ⟨p, bs, k, rfl, rfl, hs, q⟩ := h
  cases rx
  obtain ⟨u, rfl, ru⟩ := rxs.one
  cases ru
  obtain ⟨its, rv, ⟨⟨cls, dd, data, sl⟩, n, ho, hc, hdn, hd⟩, hlen⟩ := I.list hs
  simp only at hc hd
  subst hc hd
  refine call_meets PySem.F.slot_list_count ⟨_, ho, rfl⟩ PySem.F.entry_list_count (PySem.F.args_list_count_2 _ _)
    (SeqAt.list_countAt p its.toArray n dd sl (.bool k) (eqb k)) ⟨ho, fun y hy => bools_gives rv y (by simpa using hy), ?_⟩
  have ec : its.toArray.toList.countP (eqb k) = bs.count k := bools_count rv
  refine ⟨.int (bs.count k : Nat), H, I.tok _, ⟨s.toks, ?_⟩, q⟩
  show Value.int ((its.toArray.toList.countP (eqb k) : Nat) : Int) s.toks = Value.int ((bs.count k : Nat) : Int) s.toks
  rw [ec]
end FwR

/-! set(xs), xs a list of ints: a set that sorted takes. -/
namespace FwR
open PySem PySem.Spec PyProof.Rows L2
abbrev set0 (w : World) : Obj := { cls := .type "set", dict := none, data := .set #[] 0 (.fresh 0 0 (!w.params.followText "set-order")) }
section
variable {P : Program} {w : World} {A : Around} {E : Value → Shared → Prop} {s : Shared}
theorem call_set_ints {l : Addr} {items : Array Value} (ns : List Int) {Q : Value → Shared → Prop} (hh : A.handled = none) (hl : s.heap.IsList l items) (hit : IntsAre items.toList ns) (hb : ns.length + 1 < scanBound)
    (h : ∀ (h' : Heap) (tk c : Nat), SetR w h' s.heap.objs.size (fun j => decide (j ∈ ns)) c → c ≤ ns.length → (∀ b o, s.heap.get? b = some o → h'.get? b = some o) → Q (.ref s.heap.objs.size) { s with heap := h', toks := tk }) :
    wpAny (model P w) A (call (.type "set") [.ref l]) Q E s := by
  have hsz : items.size = ns.length := by
    have q := IntsAre.length hit
    rw [Array.length_toList] at q
    exact q
  obtain ⟨c, tl, hmro⟩ := F.called_set.mro
  have hmade := F.called_set.made
  have hsub := F.called_set.sub
  refine wpAny_call (codeAny_of_tree ?_)
  show wpAny _ _ (callAny (.type "set") _) _ _ _
  refine wpAny_pure ⟨Code.quiet_builtin _ (by decide +kernel), codeAny_builtin F.entry_type_call ?_⟩
  rw [Around.under_plain (weight_type_call_type "set" [.ref l] []) rfl]
  have h1 := F.called_set.notType
  have h2 := F.called_set.canCreate
  have hct := F.typeCall_set_1 (.ref l)
  repeat (any_goals (first | assumption | wp_step))
  refine codeAny_mono (code_set_led1 (.ref l) (E := E) (Q₁ := fun obj s₁ => obj = .ref s.heap.objs.size ∧ s₁ = { s with heap := s.heap.push (set0 w) }) ⟨rfl, rfl⟩) fun r s₁ hr => ?_
  refine (match r, hr with
  | .error e, hr => hr
  | .ok .next, hr => hr.elim
  | .ok .brk, hr => hr.elim
  | .ok .cont, hr => hr.elim
  | .ok (.ret obj), hr => ?_)
  obtain ⟨rfl, rfl⟩ := hr
  have hS : (s.heap.push (set0 w)).get? s.heap.objs.size = some (set0 w) := Heap.get?_push_size _ rfl
  have hT : Shared.TypeIs { s with heap := s.heap.push (set0 w) } (.ref s.heap.objs.size) "set" := ⟨_, hS, rfl⟩
  have hli := F.called_set.init.lookup
  have hbi := F.called_set.init.bind (.ref s.heap.objs.size)
  repeat (any_goals (first | assumption | wp_step))
  refine codeAny_mono (codeAny_call_builtin (R := wants (fun r s₂ => r = .none ∧ ∃ h' tk c, s₂ = { s with heap := h', toks := tk } ∧ SetR w h' s.heap.objs.size (fun j => decide (j ∈ ns)) c ∧ c ≤ ns.length ∧
      (∀ b o, s.heap.get? b = some o → h'.get? b = some o)) E) F.called_set.init.plain F.entry_set_init (check_set_init_1 hT ?_)) fun r₂ s₂ hr₂ => ?_
  · obtain ⟨ol, hol, hcl, nl, hdl⟩ := hl
    obtain ⟨ocls, odict, odata, oslots⟩ := ol
    simp only at hcl hdl
    subst hcl; subst hdl
    have hol' : (s.heap.push (set0 w)).get? l = some { cls := .type "list", dict := odict, data := .seq items nl, slots := oslots } := Heap.get?_push_of_some _ hol
    have hsls := F.sub_list_set
    have hslf := F.sub_list_frozenset
    have hne : (Value.type "list" == Value.type "dict") = false := by decide
    have hl1 : (s.heap.push (set0 w)).IsList l items := ⟨_, hol', rfl, nl, rfl⟩
    unfold Builtin.«set.__init__» noKeywords Builtin.Frozenset.updateFrom
    generalize hPI : pyIter = PI
    wp_walk
    subst hPI
    refine wpAny_pyIter_list hl1 ?_
    refine wpAny_bind (wpAny_runValue ?_)
    have hlS : l < s.heap.objs.size := Heap.lt_size hol
    have hh3 : A.in1.in1.in1.handled = none := by simp [hh]
    have hneI : l ≠ (s.heap.push (set0 w)).objs.size := by
      rw [Heap.size_push]; exact Nat.ne_of_lt (Nat.lt_succ_of_lt hlS)
    have hSf : s.heap.objs.size ∉ [(s.heap.push (set0 w)).objs.size, l] := by
      rw [Heap.size_push]; simp only [List.mem_cons, List.mem_singleton, List.not_mem_nil, or_false, not_or]
      exact ⟨Nat.ne_of_lt (Nat.lt_succ_self _), Nat.ne_of_gt hlS⟩
    have hval : ∀ (i : Nat) (v : Value), items[i]? = some v → ∃ k t, ns[i]? = some k ∧ v = .int k t := fun i v hv => by
      have hi : i < ns.length := by rw [← hsz]; exact (Array.getElem?_eq_some_iff.mp hv).1
      obtain ⟨t, e⟩ := PyProof.Rows.IntsAre.int_at hit i v (by rw [Array.getElem?_toList]; exact hv)
      refine ⟨ns[i], t, List.getElem?_eq_getElem hi, ?_⟩
      rw [e, List.getD_eq_getElem?_getD, List.getElem?_eq_getElem hi] <;> rfl
    refine set_update_ints ((Walks.list hh3 _ l hneI items).toS) s.heap.objs.size
      hSf ns hsz hb hval (items.size - 0) 0 _ (by omega) (Nat.zero_le _)
      ⟨⟨_, Heap.get?_push_size _ rfl, rfl, rfl⟩, (hl1.push _)⟩ ?hS0 ?hR
    case hS0 =>
      have hget : ((s.heap.push (set0 w)).push { cls := .type "list_iterator", data := .fields #[.ref l, .int 0 0] }).get? s.heap.objs.size = some (set0 w) := Heap.get?_push_of_some _ hS
      exact ⟨0, Nat.le_refl 0, setR_new_at hget⟩
    case hR =>
      intro s' c' hm hc' hS'
      obtain ⟨h', g2, d', tk', os'⟩ := s'
      have eg : g2 = s.gens := hm.gens
      have ed : d' = s.drawn := hm.drawn
      have eo : os' = s.os := hm.os
      subst eg; subst ed; subst eo
      show wpAny _ _ _ _ _ _
      refine wpAny_pure ?_
      show wpAny _ _ (ret Value.none) _ _ _
      rw [hsz] at hc'
      refine wpAny_pure ⟨rfl, h', tk', c', rfl, hS', hc', fun b o e => ?_⟩
      have b0 : b < s.heap.objs.size := Heap.lt_size e
      refine hm.heap b o ?_ (Heap.get?_push_of_some _ (Heap.get?_push_of_some _ e))
      rw [Heap.size_push]
      simp only [List.mem_cons, List.mem_singleton, List.not_mem_nil, or_false, not_or]
      exact ⟨Nat.ne_of_lt b0, Nat.ne_of_lt (Nat.lt_succ_of_lt b0)⟩
  · refine (match r₂, hr₂ with
    | .error e, hr₂ => hr₂
    | .ok .next, hr₂ => hr₂.elim
    | .ok .brk, hr₂ => hr₂.elim
    | .ok .cont, hr₂ => hr₂.elim
    | .ok (.ret r), hr₂ => ?_)
    obtain ⟨rfl, h', tk, c', rfl, hS', hc', hk'⟩ := hr₂
    repeat (any_goals (first | assumption | wp_step))
    exact h _ _ _ hS' hc' hk'
end
/-- set(xs), xs a list of ints -/
def rSetL (K : PySem.W.Frag) (w : World) : List V → Hp → VK → Prop := fun vs H Q => ∃ (a : Addr) (ns : List Int), vs = [.ref a] ∧ SqL K H a (ns.map V.int) ∧ ns.length ≤ 60 ∧
  ∀ p c, c ≤ ns.length → H p = none → Q (.ref p) (upd H p (SetO w p (fun j => decide (j ∈ ns)) c))
theorem cr_setL {X : Cx} (hc : X.calm = true) : CallR X (.type "set") (rSetL X.K X.w) := by
  intro pins s σ H xs us Q I r h
  obtain ⟨a, ns, rfl, hq, hn, q⟩ := h
  obtain ⟨u, rfl, ru⟩ := r.one
  cases ru
  obtain ⟨its, rv, pl, hz⟩ := I.list hq
  refine call_set_ints (P := X.prog) (w := X.w) ns (I.ok.hd hc) pl.isList (by simpa using ints_of_vals rv) (by unfold scanBound; omega) fun h' tk c R hcn k => ?_
  exact ⟨.ref _, upd H s.heap.objs.size (SetO X.w s.heap.objs.size (fun j => decide (j ∈ ns)) c), I.laid (t' := tk) k (Nat.le_refl _) (setO_new R), rfl, q _ c hcn (I.hok.fresh (Nat.le_refl _))⟩
end FwR

/-! An own exception class two steps above ArithmeticError: made, its fields stored, raised. -/
namespace FwX
open PySem PySem.Spec PyProof.Rows L2
abbrev aeTail : List Value := [.type "ArithmeticError", .type "Exception", .type "BaseException", .type "object"]
/-- what the written part must say of such a class -/
structure AExc (K : PySem.W.Frag) (C : Addr) : Prop where
  ini : PySem.W.excInitIn K C aeTail "ArithmeticError.__new__" = true
  ovr : PySem.W.excOver K C aeTail = true
  dct : PySem.W.hasDictIn K C = true
  sa : PySem.W.findIn K (.ref C) "__setattr__" = some (some (.builtin "object.__setattr__"))
  sub : PySem.W.subIn K (.ref C) (.type "BaseException") = some true
  ty : PySem.W.typeIn K (.ref C) = some (.type "type")
  kp : PySem.W.keepIn K (.ref C) = true
section
variable {X : Cx} {pins : List (Addr × Obj)} {σ : L2.St} {H : Hp} {s : Shared} {a C dx : Addr} {f : Str} {y : V} {u : Value} {E : Value → Shared → Prop} {A : Around}
/-- the first field of an exception under way -/
theorem field_new {Q : Unit → Shared → Prop} (T : AExc X.K C) (I : Inv X pins σ H s) (e : H a = some (exo a C none)) (hno : NoAttr X.K C f) (ry : RelV y u)
    (h : ∀ dx s', H dx = none → dx ≠ a → Inv X pins σ (upd (upd H dx (exd dx [(f, y)])) a (exo a C (some dx))) s' → Q () s') : wpAny (model X.prog X.w) A (setAttr (.ref a) f u) Q E s := by
  obtain ⟨t1, ho⟩ := exo_at I.hok e
  obtain ⟨hp, g, d, t, os⟩ := s
  have ht := hno.taker
  obtain ⟨cd, hc, hd'⟩ := PySem.W.any_some T.dct
  refine PySem.W.set_plain I.kIn (ox := { cls := .ref C, dict := none, data := .fields #[.ref t1, .none, .none, .none, .bool false, .none] }) (od := none) ⟨ho, rfl, rfl, trivial⟩ T.sa ?_
  refine PySem.W.osa_openX (od := none) PySem.F.store_ArithmeticError I.kIn ⟨ho, rfl, rfl, trivial⟩ T.ovr ht fun b => ?_
  refine wpAny_bind (wpAny_pure (wpAny_bind (PySem.W.instanceDict_exc ho (PySem.W.looks_clsIn I.kIn hc) hd' ?_)))
  show wpAny _ _ (Builtin.ObjectAttr.storeInDict hp.objs.size (.str f t) f u) _ _ ⟨(hp.push (PySem.W.dictOf [] 0)).update a fun o => { o with dict := some hp.objs.size }, g, d, t + 1, os⟩
  have has : a < hp.objs.size := Heap.lt_size ho
  have hx1 : (hp.push (PySem.W.dictOf [] 0)).get? a = some { cls := .ref C, dict := none, data := .fields #[.ref t1, .none, .none, .none, .bool false, .none] } := Heap.get?_push_of_some _ ho
  have hnd : H hp.objs.size = none := I.hok.fresh (Nat.le_refl _)
  refine PySem.HandSPX.store_in_new ?_ (fun h' tk' hn hs => ?_)
  · exact ⟨_, #[], _, (Heap.get?_update_ne _ _ _ _ (Nat.ne_of_gt has)).trans (Heap.get?_push_at rfl rfl), rfl, fun e he => absurd he (by simp), fun _ => rfl⟩
  have keep : ∀ b o, b ≠ a → hp.get? b = some o → h'.get? b = some o := fun b o hb q =>
    (hs.2 b (Nat.ne_of_lt (Heap.lt_size q))).trans ((Heap.get?_update_ne _ _ _ _ hb).trans (Heap.get?_push_of_some _ q))
  have atA : h'.get? a = some { cls := .ref C, dict := some hp.objs.size, data := .fields #[.ref t1, .none, .none, .none, .bool false, .none] } :=
    (hs.2 a (Nat.ne_of_lt has)).trans (Heap.get?_update_self _ hx1 rfl)
  have ltd : ∀ {b : Addr} {o : Obj}, hp.get? b = some o → b ≠ hp.objs.size := fun {b o} q => Nat.ne_of_lt (Heap.lt_size q)
  have neA : ∀ {b : Addr}, H b = none → b ≠ a := fun {b} n z => by
    rw [z, e] at n
    cases n
  have U : Un X.fs [] H (upd (upd H hp.objs.size (exd hp.objs.size [(f, y)])) a (exo a C (some hp.objs.size))) hp h' := by
    constructor
    · intro b o q n _ _
      exact keep b o (neA n) q
    · intro b o q n _ _
      exact ⟨o.slots, keep b o (neA n) q⟩
    · intro b o q n _
      rw [upd_ne (neA n), upd_ne (ltd q)]
      exact n
    · intro b o q _
      by_cases hb : b = a
      · exact ⟨_, by rw [hb]; exact atA⟩
      · exact ⟨o, keep b o hb q⟩
    · intro b xs q
      rw [upd_ne (at_ne e q exo_tup), upd_ne (ne_of_none q hnd)]
      exact q
    · intro b o v q
      rw [upd_ne (at_ne e q exo_frz), upd_ne (ne_of_none q hnd)]
      exact q
    · intro b ps q
      refine ⟨#[], ?_⟩
      rw [upd_ne (at_ne e q exo_tbl), upd_ne (ne_of_none q hnd), q]
      simp
  refine h hp.objs.size _ hnd (Nat.ne_of_gt has) (I.un (t' := tk') U fun b o q => ?_)
  by_cases hb : b = a
  · subst hb
    rw [upd_same] at q
    cases q
    exact exo_ok atA
  rw [upd_ne hb] at q
  by_cases hd : b = hp.objs.size
  · rw [hd] at q ⊢
    rw [upd_same] at q
    cases q
    exact exd_ok hn (relO_put (fs := []) ry fun g => True.intro)
  rw [upd_ne hd] at q
  refine (I.hok b o q).stay (fun c v hc z => keep c v ?_ z) (fun c hc => ?_) (fun c xs hc => ?_)
  · rcases hc with hc | hc
    · rw [hc]; exact hb
    · exact at_ne e hc exo_own
  · rw [upd_ne (at_ne e hc exo_own), upd_ne (ne_of_none hc hnd)]; exact hc
  · rw [upd_ne (at_ne e hc exo_tup), upd_ne (ne_of_none hc hnd)]; exact hc
/-- the base's __init__ on it: nothing of it is told -/
theorem base_init {us : List Value} {Q : Value → Shared → Prop} (T : AExc X.K C) (I : Inv X pins σ H s) (e : H a = some (exo a C none)) (hl : us.length ≤ sizeLine) (h : ∀ s', Inv X pins σ H s' → Q .none s') :
    wpAny (model X.prog X.w) A (call (.builtin "ArithmeticError.__init__") (.ref a :: us)) Q E s := by
  obtain ⟨t1, ho⟩ := exo_at I.hok e
  obtain ⟨nm, N, q, bs, bm, hdct, sn, sub, ab, col, dd, k0, k1, k2, k3, k5, hC, hbm⟩ := PySem.W.excInit_of I.kIn T.ini
  obtain ⟨hp, g, d, t, os⟩ := s
  refine wpAny_call (PySem.HandSPX.init_base PySem.F.excBase_ArithmeticError hbm hC ho hl fun h' t2 k hx => ?_)
  have J := I.write (t' := t) (x := a) (e := a) (o := exo a C none) (by rw [e]; exact True.intro) (.inl rfl) k ⟨_, hx⟩ (exo_ok hx)
  have eu : upd H a (exo a C none) = H := funext fun b => by
    by_cases hb : b = a
    · rw [hb, upd_same, e]
    · rw [upd_ne hb]
  rw [eu] at J
  exact h _ J
end
/-! ### readings, rules -/
/-- W.__init__(self, ..), W an own class whose __init__ is the built-in one -/
def tInit (K : PySem.W.Frag) (ta : TA) : TE := fun σ H Q => ta σ H fun vs H1 => ∃ (a C : Addr) (ws : List V), vs = .ref a :: ws ∧ ws.length ≤ 1000 ∧ AExc K C ∧ H1 a = some (exo a C none) ∧ Q .non H1
/-- self.f = e, the first field -/
def tField (K : PySem.W.Frag) (f : Str) (to te : TE) : TS := fun D σ H => te σ H fun y H1 => to σ H1 fun x H2 => ∃ a C : Addr, x = .ref a ∧ AExc K C ∧ NoAttr K C f ∧ H2 a = some (exo a C none) ∧
  ∀ dx, H2 dx = none → dx ≠ a → D.nx σ (upd (upd H2 dx (exd dx [(f, y)])) a (exo a C (some dx)))
section
variable {X : Cx} {o e : Expr} {es : List Expr} {to te : TE} {ta : TA} {f : Str} {p p' p1 p2 pos : Pos}
theorem pe_init {pl : Sem Bool} {x : Str} {W : Addr} {mc : Value} (hg : Gl X x) (hm : X.mg x = some (.ref W)) (r : ClX.CRead X.K W mc) (vW : PySem.W.findCls X.K (.ref W) mc "__init__" = some (.val (.builtin "ArithmeticError.__init__"))) (ha : PA X (e :: es) ta)
    (hc : eval (.Call (.Attribute (.Name x p1) "__init__" p2) (e :: es) [] pos) X.env = (do
      let ov ← eval (.Name x p1) X.env
      standAt p2.atName
      let (f, first) ← holding [ov] (getMethod ov "__init__" pl)
      callWith pos f first (backTo pos (starEach (e :: es) X.env)) (backToKw pos (keywordEach [] X.env))) := by rfl)
    (hdb : (x == ("__debug__" : Str)) = false := by decide)
    (he : starEach (e :: es) X.env = (false, eval e X.env) :: starEach es X.env := by rfl) (hpl : (backTo pos (starEach es X.env)).any (·.1) = false := by rfl) :
    PE X (.Call (.Attribute (.Name x p1) "__init__" p2) (e :: es) [] pos) (tInit X.K ta) := by
  constructor
  intro pins s σ H Q I h
  refine PySem.W.methodCall_KW (ld_glob I hg hm ?_ hdb) hc
  refine PySem.W.method_cls I.kIn r.ga (PySem.W.cls_value I.kIn r.rd vW rfl ?_)
  show wpAny _ _ (callWith pos (Value.builtin "ArithmeticError.__init__") [] (backTo pos (starEach (e :: es) X.env)) []) _ _ _
  refine PyProof.Rows.callWith_method1 (thn (ha.run pos pins _ σ H _ (I.tok _) h) fun us s1 z => ?_) he hpl
  obtain ⟨vs, H1, I1, r1, a, C, ws, ev, hl, T, ea, q⟩ := z
  subst ev
  cases r1 with
  | @cons _ u0 _ ur ra rw' =>
    obtain rfl : u0 = Value.ref a := ra
    refine base_init T I1 ea ?_ fun s' J => ⟨.non, H1, J, rfl, q⟩
    rw [← Paired.length rw', sizeLine_eq]
    omega
theorem ps_field (ho : PE X o to) (he : PE X e te) (hs : swapsWith e (some (.Attribute o f p')) pos.line X.env = pure false := by rfl) : PS X (.Assign [.Attribute o f p'] e pos) (tField X.K f to te) := by
  constructor
  intro pins s σ H D I h
  refine plainObj_wpAny_Assign_Attribute (thn (he.run pins s σ H _ I h) fun v s1 z => ?_) hs
  obtain ⟨y, H1, I1, r1, q1⟩ := z
  refine thn (ho.run pins s1 σ H1 _ I1 q1) fun u s2 z => ?_
  obtain ⟨x, H2, I2, r2, a, C, ex, T, hno, ea, q⟩ := z
  subst ex
  obtain rfl : u = Value.ref a := r2
  exact field_new T I2 ea hno r1 fun dx s' n ne J => ⟨σ, _, J, q dx n ne⟩
/-- C(e, ..): the exception is made, its __init__ keeps sp -/
theorem pmk_ax {CX : CXT} {x : Str} {C fI : Addr} {k : Nat} {fd : FuncData} {ps : List Str} {sp : Sp} {ds : List Value} {dvs : List V} (T : AExc X.K C) (iC : PySem.W.findIn X.K (.ref C) "__init__" = some (some (.ref fI))) (tI : PySem.W.typeIn X.K (.ref fI) = some (.type "function"))
    (G : FnOk X.prog X.w X.K X.mg X.base CX k fI fd ps sp) (hr : Room (k + 1) X.A) (hb : Binds X.K fd ps ds) (hd : Vals dvs ds) (hx : Passes CX X (fun _ _ _ => False)) (hg : Gl X x) (hm : X.mg x = some (.ref C)) (ha : PA X (e :: es) ta)
    (hdb : (x == ("__debug__" : Str)) = false := by decide) (he : starEach (e :: es) X.env = (false, eval e X.env) :: starEach es X.env := by rfl) (hpl : (backTo pos (starEach es X.env)).any (·.1) = false := by rfl) :
    PMk X (.Call (.Name x p) (e :: es) [] pos) (tMkO C sp dvs ta) := by
  intro pins s σ H Q I h
  refine wpAny_Call_Name_kw (ld_glob I hg hm ?_ hdb)
  refine PySem.W.callWith_K (h₀ := X.base) I.ok.mod.kin T.kp (thn (ha.run pos pins s σ H _ I h) fun us s1 z => ?_) he hpl
  obtain ⟨vs, H1, I1, r1, hz, q1⟩ := z
  refine ⟨I1.kIn, ?_⟩
  show wpAny _ _ (call (.ref C) us) _ _ _
  obtain ⟨nm, N, q, bs, bm, hdct, sn, sub, ab, col, dd, k0, k1, k2, k3, k5, hC, hbm⟩ := PySem.W.excInit_of I1.kIn T.ini
  obtain ⟨hp, g, dr, tk, os⟩ := s1
  have hsz : hp.objs.size ≤ hp.objs.size + 1 := Nat.le_succ _
  have hq := q1 (hp.objs.size + 1) (I1.hok.fresh hsz)
  have kk : ∀ b o, hp.get? b = some o → ((hp.push (PySem.W.kdv_tup us)).push (PySem.HandSPX.excO C hp.objs.size)).get? b = some o := fun b o e => Heap.get?_push_of_some _ (Heap.get?_push_of_some _ e)
  have hget : ((hp.push (PySem.W.kdv_tup us)).push (PySem.HandSPX.excO C hp.objs.size)).get? (hp.objs.size + 1) = some (PySem.HandSPX.excO C hp.objs.size) := by heap_get
  have I2 := I1.laid (t' := tk) (a := hp.objs.size + 1) (o := exo (hp.objs.size + 1) C none) kk hsz (exo_ok hget)
  have r2 : Vals (V.ref (hp.objs.size + 1) :: (vs ++ dvs)) (Value.ref (hp.objs.size + 1) :: (us ++ ds)) := .cons rfl (r1.append hd)
  have hl : (Value.ref (hp.objs.size + 1) :: us ++ ds).length = ps.length := by
    have e := r2.length
    rw [G.len _ _ _ _ hq] at e
    exact e.symm
  have hus : us.length ≤ sizeLine := by
    rw [← Paired.length r1, sizeLine_eq]
    omega
  refine wpAny_call (PySem.HandSPX.call_own PySem.F.excBase_ArithmeticError hbm hC (PySem.W.looks_findIn I1.kIn iC) (fun self => PySem.W.bind_fn I1.kIn self tI) hus
    (codeAny_mono (G.run _ X.stack _ _ ⟨Value.ref (hp.objs.size + 1) :: us, []⟩ (Value.ref (hp.objs.size + 1) :: (us ++ ds)) _ _ (fun _ _ _ => False) (hr.make C us []) (I2.env0.make C us []) (hb _ (Value.ref (hp.objs.size + 1) :: us) I2.kIn hl) r2 hq) fun r s' z => ?_))
  cases r with
  | error er => exact hx pins σ _ _ er s' I2 z
  | ok fl =>
    cases fl with
    | ret u =>
      obtain ⟨v, H2, os2, bare2, un2, hok2, rv, ev, d, fs, ea, ed, hd1, q2⟩ := z
      subst ev
      obtain ⟨h2, g2, d2, t2, os'⟩ := s'
      exact ⟨rv, mk_end (raises_own T.sub T.ty) I1 hsz kk un2 hok2 os2 bare2 ea ed hd1 q2⟩
    | next => exact False.elim z
    | brk => exact False.elim z
    | cont => exact False.elim z
end
end FwX

/-! What catches: try: return ask() except WrapError as e: .. -/
namespace FwL
open PySem PySem.Spec PyProof.Rows L2 FwR
/-- code that is never come to -/
theorem pe_nev {X : Cx} {e : Expr} : PE X e (fun _ _ _ => False) := ⟨fun _ _ _ _ _ _ h => h.elim⟩
/-- isinstance(e, c), e the caught exception with its own dict at d -/
def rIsX (K : PySem.W.Frag) (D a : Addr) (d : Option Addr) : List V → Hp → VK → Prop := fun xs H Q => ∃ (c : V) (cv : Value) (b : Bool) (dd : Addr) (fs : List (Str × V)), xs = [.ref a, c] ∧ ClsV c cv ∧ PySem.W.kitOne K (.ref D) cv = some b ∧
  d = some dd ∧ H dd = some (.xd fs) ∧ Q (.bl b) H
structure XIs (K : PySem.W.Frag) (D : Addr) : Prop where
  cl : (PySem.W.clsIn K D).isSome = true
  ga : PySem.W.findIn K (.ref D) "__getattribute__" = some (some (.builtin "BaseException.__getattribute__"))
  gt : PySem.W.findIn K (.ref D) "__getattr__" = some none
  sb : PySem.W.subIn K (.ref D) (.type "BaseException") = some true
  ca : PySem.W.findIn K (.ref D) "__class__" = some (some (.builtin "object.__class__"))
  gn : PySem.W.specialIn K (.builtin "object.__class__") "__get__" = some (some (.builtin "getset_descriptor.__get__"))
  tk : PySem.W.takesIn K (.builtin "object.__class__") = some true
  ob : PySem.W.mroIn K D (.type "object") = some true
theorem call_isX {X : Cx} {a D : Addr} {oe : Obj} {d : Option Addr} {pn : List (Addr × Obj)} {cls : Value} (C : XIs X.K D) (hz : Zc cls d oe) (hf : ∃ vs, oe.data = .fields vs) :
    CallR (X.suite a ((a, oe) :: pn)) (.builtin "isinstance") (fun xs H Q => cls = .ref D ∧ rIsX X.K D a d xs H Q) := by
  intro pins s σ H xs us Q I r h
  obtain ⟨rfl, c, cv, b, dd, fs, rfl, hcv, e, rfl, hd, q⟩ := h
  obtain ⟨u1, u2, rfl, r1, r2⟩ : ∃ u1 u2, us = [u1, u2] ∧ RelV (.ref a) u1 ∧ RelV c u2 := by
    cases r with
    | cons x1 r =>
      cases r with
      | cons x2 r =>
        cases r
        exact ⟨_, _, rfl, x1, x2⟩
  cases r1
  obtain rfl := hcv.eq r2
  obtain ⟨hget, _⟩ := I.pin (a, oe) (List.mem_append.mpr (.inl List.mem_cons_self))
  obtain ⟨vs, hv⟩ := hf
  have hx : ObjOk X.prog X.w H s.heap dd (.xd fs) := I.hok dd _ hd
  obtain ⟨mA, hns, _⟩ := hx
  obtain ⟨od, ho, _⟩ := lookIn_ns hns
  have J : PySem.W.InstAt s.heap a oe D (some od) := ⟨hget, hz.1, by unfold PySem.W.notCls; rw [hv] <;> rfl, by rw [hz.2]; exact ho⟩
  exact PySem.W.kia_one (PySem.W.kitx_exc C.cl C.ga C.gt C.sb C.ca C.gn C.tk C.ob) I.kIn J e (fun z => nomatch z) fun tk => ⟨.bl b, H, I.kept (t' := tk) fun _ _ z => z, rfl, q⟩
/-- what the except suite leans on -/
structure SaidT (K : PySem.W.Frag) (mg : Str → Option Value) (CW CB CK CC CL : Addr) : Prop where
  mW : mg "WrapError" = some (.ref CW)
  mB : mg "InvalidBound" = some (.ref CB)
  mK : mg "InvalidKind" = some (.ref CK)
  mC : mg "InvalidCall" = some (.ref CC)
  mL : mg "LimitExceeded" = some (.ref CL)
  isi : mg "isinstance" = none
  ae : mg "ArithmeticError" = none
  xm : PySem.W.exmOne K (.ref CB) (.ref CW) = some true
  kB : PySem.W.kitOne K (.ref CB) (.ref CB) = some true
  kK : PySem.W.kitOne K (.ref CB) (.ref CK) = some false
  kC : PySem.W.kitOne K (.ref CB) (.ref CC) = some false
  kL : PySem.W.kitOne K (.ref CB) (.ref CL) = some false
  kA : PySem.W.kitOne K (.ref CB) (.type "ArithmeticError") = some true
  xf : XfC K CB
  no : NoAttr K CB "argument"
  is_ : XIs K CB
/-- what is told of the asker: it raises InvalidBound("j") -/
def TTold (CB : Addr) : (XK → Hp → VK → Prop) → Hp → VK → Prop := fun tl H Q =>
  tl (fun cls d H' => cls = .ref CB ∧ ∃ dd, d = some dd ∧ H' dd = some (.xd [("argument", .str "j")]) ∧ ∀ H2 p, (∀ b o, H' b = some o → H2 b = some o) → H2 p = some (.tup [.str "bound", .str "j"]) → Q (.ref p) H2) H Q
theorem boot_isinst : bootBuiltins "isinstance" = some (.builtin "isinstance") := by decide +kernel
theorem boot_ae : bootBuiltins "ArithmeticError" = some (.type "ArithmeticError") := by decide +kernel
def Nsaid : List Str := ["_law_ask", "e", "_law_marks"]
theorem scSaid : FnScope ["_law_ask", "e", "_law_marks"] ["_law_ask"] (defScope Fw.s_Lsaid) := ⟨rfl, rfl, rfl, by decide +kernel, rfl, by decide +kernel, by decide +kernel⟩
/-- isinstance(e, c) in the suite -/
def tI (K : PySem.W.Frag) (CB a : Addr) (cls : Value) (d : Option Addr) (c : V) : TE := tCB (fun xs H Q => cls = .ref CB ∧ rIsX K CB a d xs H Q) (tCons (tVar 1) (tCons (tC c) tNil))
def tSaid (K : PySem.W.Frag) (CB CK CC CL a : Addr) (cls : Value) (d : Option Addr) : TS :=
  tSeq (tAsg (tLst (tCons (tI K CB a cls d (.ref CB)) (tCons (tI K CB a cls d (.ref CK)) tNil))) (gName 2))
  (tSeq (tAsg (tOp rCat (tVar 2) (tLst (tCons (tI K CB a cls d (.ref CC)) (tCons (tI K CB a cls d (.ref CL)) tNil)))) (gName 2))
  (tSeq (tIfS (tOr (tTest (tOp rNe (tBM K "list" (rCntB K) (tVar 2) (tCons (tC (.bl true)) tNil)) (tC (.int 1)))) (tNot (tB (tI K CB a cls d (.ty "ArithmeticError"))))) (tRet (tC (.str "other"))) tNext)
  (tSeq (tIfS (tOr (tB (tOp (rIxL K) (tVar 2) (tC (.int 0)))) (tB (tOp (rIxL K) (tVar 2) (tC (.int 1)))))
    (tRet (tIf (tB (tOp (rIxL K) (tVar 2) (tC (.int 0)))) (tTup (tCons (tC (.str "bound")) (tCons (tXf a cls d CB "argument" (tVar 1)) tNil))) (fun _ _ _ => False))) tNext)
  tNever)))
/-- what it comes to -/
theorem said_run {K : PySem.W.Frag} {mg : Str → Option Value} {CW CB CK CC CL a dd : Addr} (T : SaidT K mg CW CB CK CC CL) {D : Ends} {v0 v2 : Option V} {H : Hp} (ha : H a = none) (hd : H dd = some (.xd [("argument", .str "j")]))
    (k : ∀ H2 p, (∀ b o, H b = some o → H2 b = some o) → H2 p = some (.tup [.str "bound", .str "j"]) → D.rt (.ref p) H2) :
    tSaid K CB CK CC CL a (.ref CB) (some dd) D [v0, some (.ref a), v2] H := by
  have is : ∀ (c : V) (cv : Value) (b : Bool) (σ : L2.St) (H2 : Hp) (Q : VK), σ[1]? = some (some (V.ref a)) → ClsV c cv → PySem.W.kitOne K (.ref CB) cv = some b → H2 dd = some (.xd [("argument", .str "j")]) → Q (.bl b) H2 → tI K CB a (.ref CB) (some dd) c σ H2 Q :=
    fun c cv b σ H2 Q h1 h2 h3 h4 h5 => ⟨_, h1, rfl, c, cv, b, dd, _, rfl, h2, h3, rfl, h4, h5⟩
  refine is _ _ true _ _ _ rfl (.own CB) T.kB hd (is _ _ false _ _ _ rfl (.own CK) T.kK hd ⟨by show 2 ≤ sizeLine; decide, fun l hl => ?_⟩)
  have d1 : upd H l (.lst [.bl true, .bl false]) dd = some (.xd [("argument", .str "j")]) := by
    rw [upd_ne (ne_of_none hd hl)]; exact hd
  refine ⟨_, rfl, is _ _ false _ _ _ rfl (.own CC) T.kC d1 (is _ _ false _ _ _ rfl (.own CL) T.kL d1 ⟨by show 2 ≤ sizeLine; decide, fun m hm => ?_⟩)⟩
  have nlm : l ≠ m := ne_of_none upd_same hm
  refine ⟨l, m, _, _, rfl, rfl, (by rw [upd_ne nlm]; exact upd_same), upd_same, by show 4 ≤ sizeLine; decide, fun r hr => ?_⟩
  have hm' : ∀ {b : Addr} {o : HO}, H b = some o → upd (upd (upd H l (.lst [.bl true, .bl false])) m (.lst [.bl false, .bl false])) r (.lst ([.bl true, .bl false] ++ [.bl false, .bl false])) b = some o := fun {b o} e => by
    have e1 : upd H l (.lst [.bl true, .bl false]) b = some o := by rw [upd_ne (ne_of_none e hl)]; exact e
    have e2 : upd (upd H l (.lst [.bl true, .bl false])) m (.lst [.bl false, .bl false]) b = some o := by rw [upd_ne (ne_of_none e1 hm)]; exact e1
    rw [upd_ne (ne_of_none e2 hr)]; exact e2
  generalize hG : upd (upd (upd H l (.lst [.bl true, .bl false])) m (.lst [.bl false, .bl false])) r (.lst ([.bl true, .bl false] ++ [.bl false, .bl false])) = G at *
  have hr4 : G r = some (.lst [.bl true, .bl false, .bl false, .bl false]) := by rw [← hG]; exact upd_same
  have d4 : G dd = some (.xd [("argument", .str "j")]) := hm' hd
  refine ⟨_, rfl, .inl ⟨rfl, _, .inl (.inl hr4)⟩, r, [true, false, false, false], true, rfl, rfl, SqL.of hr4, rfl, _, rfl, ?_⟩
  refine iteF (is _ _ true _ _ _ rfl (.ty "ArithmeticError") T.kA d4 ⟨_, rfl, iteF ?_⟩)
  refine ⟨_, rfl, r, _, 0, _, rfl, rfl, SqL.of hr4, rfl, _, rfl, iteT (iteT ?_)⟩
  refine ⟨_, rfl, r, _, 0, _, rfl, rfl, SqL.of hr4, rfl, _, rfl, iteT ?_⟩
  refine ⟨_, rfl, rfl, rfl, dd, _, _, rfl, d4, rfl, by show 2 ≤ sizeLine; decide, fun p hp => ?_⟩
  refine k _ p (fun b o e => ?_) upd_same
  rw [upd_ne (ne_of_none (hm' e) hp)]
  exact hm' e
/-- the frame's slots are as many as its names -/
theorem len3 {X : Cx} {st : List Stmt} {t : TS} {n : Nat} (hn : X.N.length = n) (h : PSs X st t) : PSs X st (fun D σ H => σ.length = n → t D σ H) := ⟨fun pins s σ H D I k => h.run pins s σ H D I (k (I.len.trans hn))⟩
theorem said_gives {X : Cx} {CW CB CK CC CL g : Addr} {cdg : Value} {q : Str} (T : SaidT X.K X.mg CW CB CK CC CL) :
    LamX.GivesTo X ["_law_ask", "e", "_law_marks"] "_law_said" (defScope Fw.s_Lsaid) g cdg (defBody Fw.s_Lsaid) "_law_ask" q (TTold CB) := by
  intro f c' s H Q tl act hc h
  refine ⟨_, pss_one (ps_try_as (X := (cxOf C8.CX0 X.prog X.w X.K X.mg X.base ["_law_ask", "e", "_law_marks"] "_law_said" (defScope Fw.s_Lsaid) g cdg X.A X.stack s H C8.E0).nox) (i := 1) (c := .ref CW)
      (tb := fun W D σ H => ∃ Ech : XK, (∀ cls d σ' H', Ech cls d H' → W cls d σ' H') ∧ σ[0]? = some (some (.ref f)) ∧ H c' = some (LamX.CodeO c' q) ∧ tl Ech H D.rt)
      (Wout := fun _ _ _ _ => False) (ts := fun a cls d D σ H => σ.length = 3 → tSaid X.K CB CK CC CL a cls d D σ H) rfl rfl scSaid.nd rfl rfl ⟨rfl, by decide, .inl T.mW⟩ LamX.takes0 (fun W pn xe tk _ => ?_) (fun a oe cls d pn hz hf => len3 (by rfl) (
    pss_cons (ps_set (i := 2) scSaid.nd rfl (Or.inl rfl) (pe_lst (pa_cons (pe_callB (call_isX T.is_ hz hf) (by rfl) T.isi boot_isinst (pa_cons (pv 1) (pa_cons (pe_glob (v := .ref CB) rfl T.mB rfl) pa_nil))) (pa_cons (pe_callB (call_isX T.is_ hz hf) (by rfl) T.isi boot_isinst (pa_cons (pv 1) (pa_cons (pe_glob (v := .ref CK) rfl T.mK rfl) pa_nil))) pa_nil))))
      (pss_cons (ps_set (i := 2) scSaid.nd rfl (Or.inl rfl) (pe_op op_cat (pv 2) (pe_lst (pa_cons (pe_callB (call_isX T.is_ hz hf) (by rfl) T.isi boot_isinst (pa_cons (pv 1) (pa_cons (pe_glob (v := .ref CC) rfl T.mC rfl) pa_nil))) (pa_cons (pe_callB (call_isX T.is_ hz hf) (by rfl) T.isi boot_isinst (pa_cons (pv 1) (pa_cons (pe_glob (v := .ref CL) rfl T.mL rfl) pa_nil))) pa_nil)))))
      (pss_cons (ps_if (PW.pt (pw_or (pt_cmpR op_ne (pe_bm PySem.F.plainAttrs_list PySem.F.slot_list_count PySem.F.type_list_count mt_countB (pv 2) (pa_cons pe_bl pa_nil)) pe_int (nomark _)) (pw_or1 (pt_not (pt_val (pe_callB (call_isX T.is_ hz hf) (by rfl) T.isi boot_isinst (pa_cons (pv 1) (pa_cons (pe_bltn (v := .ty "ArithmeticError") rfl T.ae boot_ae rfl) pa_nil))))))))
          (pss_one (ps_ret pe_str)) pss_nil)
      (pss_cons (ps_if (PW.pt (pw_or (pt_val (pe_ix ix_list (pv 2) pe_int (fun _ _ => rfl))) (pw_or1 (pt_val (pe_ix ix_list (pv 2) pe_int (fun _ _ => rfl))))))
          (pss_one (ps_ret (pe_ifExp (pt_val (pe_ix ix_list (pv 2) pe_int (fun _ _ => rfl))) (pe_tup (pa_cons pe_str (pa_cons (pe_xf T.xf T.no hz hf (pv 1)) pa_nil))) pe_nev))) pss_nil)
      (pss_one ps_never))))))), ?_⟩
  · refine ⟨fun pins s' σ H' D I h' => ?_⟩
    obtain ⟨Ech, hW, h1, h2, h3⟩ := h'
    exact (pss_one (ps_ret (act W pn xe Ech _ _ tk hW))).run pins s' σ H' D I ⟨h1, h2, h3⟩
  · refine ⟨_, fun cls d σ' H' z => ?_, rfl, hc, h⟩
    obtain ⟨rfl, dd, rfl, hd, k⟩ := z
    refine ⟨true, T.xm, fun _ a ha => ?_, fun z => nomatch z⟩
    intro hl
    match σ', hl with
    | [x0, x1, x2], _ =>
      refine said_run T ha hd ?_
      exact k
end FwL


/-! What stands at an address; the first defs. -/
namespace Fw
open PySem PySem.Spec PyProof.Rows L2 Rw
abbrev CK (K : PySem.W.Frag) : Addr := He.ga K "Kind"
abbrev CE (K : PySem.W.Frag) : Addr := He.ga K "Effect"
abbrev CA (K : PySem.W.Frag) : Addr := He.ga K "Apart"
def kfs (k : Kd) : List (Str × V) := [("bits", .int (k.w : Int)), ("is_signed", .bl k.s)]
def efs (e : Ef) : List (Str × V) := [("bits", .int (e.b : Int)), ("width", .int (e.wd : Int)), ("is_below", .bl e.below), ("shift", .int e.sh)]
theorem kfs_bits (k : Kd) : (kfs k).lookup ("bits" : Str) = some (.int (k.w : Int)) := rfl
theorem kfs_sg (k : Kd) : (kfs k).lookup ("is_signed" : Str) = some (.bl k.s) := rfl
theorem kfs_no (k : Kd) : (kfs k).lookup ("parts" : Str) = none := rfl
theorem efs_bits (e : Ef) : (efs e).lookup ("bits" : Str) = some (.int (e.b : Int)) := rfl
theorem efs_width (e : Ef) : (efs e).lookup ("width" : Str) = some (.int (e.wd : Int)) := rfl
theorem efs_below (e : Ef) : (efs e).lookup ("is_below" : Str) = some (.bl e.below) := rfl
theorem efs_shift (e : Ef) : (efs e).lookup ("shift" : Str) = some (.int e.sh) := rfl
def KiAt (K : PySem.W.Frag) (H : Hp) (v : V) (k : Kd) : Prop := ∃ p dx, v = .ref p ∧ H p = some (.ins (CK K) dx (kfs k))
def EfAt (K : PySem.W.Frag) (H : Hp) (v : V) (e : Ef) : Prop := ∃ p dx, v = .ref p ∧ H p = some (.ins (CE K) dx (efs e))
/-- a tuple of a width and a sign; of two ints -/
def ShAt (H : Hp) (v : V) (k : Kd) : Prop := ∃ p, v = .ref p ∧ H p = some (.tup [.int (k.w : Int), .bl k.s])
def RgAt (H : Hp) (v : V) (r : Int × Int) : Prop := ∃ p, v = .ref p ∧ H p = some (.tup [.int r.1, .int r.2])
/-- a list, item by item -/
def LsAt {α : Type} (R : Hp → V → α → Prop) (H : Hp) (v : V) (xs : List α) : Prop := ∃ a vs, v = .ref a ∧ H a = some (.lst vs) ∧ Paired (R H) vs xs
def Mono {α : Type} (R : Hp → V → α → Prop) : Prop := ∀ H H' v x, Same H H' → R H v x → R H' v x
theorem KiAt.mono {K : PySem.W.Frag} : Mono (KiAt K) := fun _ _ _ _ e ⟨p, dx, h1, h2⟩ => ⟨p, dx, h1, e _ _ h2⟩
theorem EfAt.mono {K : PySem.W.Frag} : Mono (EfAt K) := fun _ _ _ _ e ⟨p, dx, h1, h2⟩ => ⟨p, dx, h1, e _ _ h2⟩
theorem ShAt.mono : Mono ShAt := fun _ _ _ _ e ⟨p, h1, h2⟩ => ⟨p, h1, e _ _ h2⟩
theorem RgAt.mono : Mono RgAt := fun _ _ _ _ e ⟨p, h1, h2⟩ => ⟨p, h1, e _ _ h2⟩
theorem LsAt.mono {α : Type} {R : Hp → V → α → Prop} (m : Mono R) : Mono (LsAt R) := fun H H' _ _ e ⟨a, vs, h1, h2, h3⟩ => ⟨a, vs, h1, e _ _ h2, L2.Paired.mapP h3 fun v x => m H H' v x e⟩
theorem Paired.get {α β : Type} {F : α → β → Prop} : ∀ {l₁ : List α} {l₂ : List β}, Paired F l₁ l₂ → ∀ {i : Nat} {x : α}, l₁[i]? = some x → ∃ y, l₂[i]? = some y ∧ F x y
  | _, _, .nil, _, _, h => by simp at h
  | _, _, .cons h _, 0, _, e => by cases e; exact ⟨_, rfl, h⟩
  | _, _, .cons _ r, i + 1, _, e => Paired.get r (i := i) e
theorem Paired.get' {α β : Type} {F : α → β → Prop} : ∀ {l₁ : List α} {l₂ : List β}, Paired F l₁ l₂ → ∀ {i : Nat} {y : β}, l₂[i]? = some y → ∃ x, l₁[i]? = some x ∧ F x y
  | _, _, .nil, _, _, h => by simp at h
  | _, _, .cons h _, 0, _, e => by cases e; exact ⟨_, rfl, h⟩
  | _, _, .cons _ r, i + 1, _, e => Paired.get' r (i := i) e
theorem Paired.app {α β : Type} {F : α → β → Prop} : ∀ {l₁ : List α} {l₂ : List β}, Paired F l₁ l₂ → ∀ {m₁ : List α} {m₂ : List β}, Paired F m₁ m₂ → Paired F (l₁ ++ m₁) (l₂ ++ m₂)
  | _, _, .nil, _, _, h => h
  | _, _, .cons h r, _, _, g => .cons h (Paired.app r g)
theorem Paired.drop {α β : Type} {F : α → β → Prop} : ∀ (n : Nat) {l₁ : List α} {l₂ : List β}, Paired F l₁ l₂ → Paired F (l₁.drop n) (l₂.drop n)
  | 0, _, _, h => h
  | _ + 1, _, _, .nil => .nil
  | n + 1, _, _, .cons _ r => Paired.drop n r
theorem Paired.take {α β : Type} {F : α → β → Prop} : ∀ (n : Nat) {l₁ : List α} {l₂ : List β}, Paired F l₁ l₂ → Paired F (l₁.take n) (l₂.take n)
  | 0, _, _, _ => .nil
  | _ + 1, _, _, .nil => .nil
  | n + 1, _, _, .cons h r => .cons h (Paired.take n r)
theorem Paired.rev {α β : Type} {F : α → β → Prop} : ∀ {l₁ : List α} {l₂ : List β}, Paired F l₁ l₂ → Paired F l₁.reverse l₂.reverse
  | _, _, .nil => .nil
  | _, _, .cons h r => by
    rw [List.reverse_cons, List.reverse_cons]
    exact Paired.app (Paired.rev r) (.cons h .nil)
/-- a new object leaves all as it was -/
theorem same_new {H : Hp} {p : Addr} {o : HO} (h : H p = none) : Same H (upd H p o) := fun b u e => by
  rw [upd_ne (ne_of_none e h)]; exact e
theorem same_newer {H H1 : Hp} {p : Addr} {o : HO} (s : Same H H1) (h : H1 p = none) : Same H (upd H1 p o) := s.trans (same_new h)
/-- an object that H did not know may change -/
theorem same_own {H H1 : Hp} {p : Addr} {o : HO} (s : Same H H1) (h : H p = none) : Same H (upd H1 p o) := fun b u e => by
  rw [upd_ne (ne_of_none e h)]; exact s b u e
theorem Room.units65 {k : Nat} {A : Around} (hr : Room k A) : A.units + 65 < cLine := by have := hr.un; omega
/-- 1 << n -/
theorem shl1 {j : Int} {n : Nat} (h : j = (n : Int)) : (1 : Int) * 2 ^ j.toNat = P2 n := by
  subst h
  rw [Int.toNat_natCast, Int.one_mul]
  rfl
theorem cpow {j : Int} (h0 : 0 ≤ j) (h1 : j ≤ 1000000) : CPow 1 j := ⟨h0, h1, by decide⟩
theorem op_shl1 {X : Cx} : OpR X (binaryOp .LShift) (fun x y H Q => ∃ n : Nat, x = .int 1 ∧ y = .int (n : Int) ∧ n ≤ 1000000 ∧ Q (.int (P2 n)) H) := by
  intro pins s σ H x y v u Q I rx ry h
  obtain ⟨n, rfl, rfl, hn, q⟩ := h
  refine op_shl pins s σ H _ _ v u Q I rx ry ⟨1, n, rfl, rfl, cpow (by omega) (by omega), ?_⟩
  show Q (.int (1 * 2 ^ (n : Int).toNat)) H
  rw [shl1 rfl]
  exact q
theorem vdec (i j : Int) : decide (V.int i = V.int j) = decide (i = j) := by
  by_cases h : i = j
  · rw [decide_eq_true h, decide_eq_true (congrArg V.int h)]
  · rw [decide_eq_false h, decide_eq_false (fun z => h (V.int.inj z))]
theorem op_eqi {X : Cx} : OpR X (compareOp .Eq) (rI0 fun i j => .bl (decide (i = j))) := by
  intro pins s σ H x y v u Q I rx ry h
  obtain ⟨i, j, rfl, rfl, q⟩ := h
  refine op_eq pins s σ H _ _ v u Q I rx ry ⟨rfl, ?_⟩
  rw [vdec]
  exact q
theorem op_nei {X : Cx} : OpR X (compareOp .NotEq) (rI0 fun i j => .bl (!decide (i = j))) := by
  intro pins s σ H x y v u Q I rx ry h
  obtain ⟨i, j, rfl, rfl, q⟩ := h
  refine op_ne pins s σ H _ _ v u Q I rx ry ⟨rfl, ?_⟩
  rw [vdec]
  exact q
/-- n - 1 as a place -/
theorem pred_i {n : Nat} (h : 1 ≤ n) : V.int ((n : Int) - 1) = V.int ((n - 1 : Nat) : Int) := congrArg V.int (by omega)
theorem P2_nat (n : Nat) : (P2 n).natAbs = 2 ^ n := by
  unfold P2
  rw [Int.natAbs_pow]
  rfl
theorem P2_abs {n m : Nat} {i : Int} (h : n < m) (h0 : -P2 n ≤ i) (h1 : i ≤ P2 n) : i.natAbs < 2 ^ m := by
  have e := P2_nat n
  have p := P2_pos n
  have q : 2 ^ n < 2 ^ m := Nat.pow_lt_pow_right (by decide) h
  omega
section
variable {P : Program} {w : World} {K : PySem.W.Frag} {mg : Str → Option Value} {base : Heap}
/-! ### ints -/
def spIsInt : Sp := fun vs H Q _ => ∃ n : Int, vs = [.int n] ∧ Q (.bl true) H
def spBetween : Sp := fun vs H Q _ => ∃ n lo hi : Int, vs = [.int n, .int lo, .int hi] ∧ Q (.bl (decide (lo ≤ n) && decide (n ≤ hi))) H
def spCkInt : Sp := fun vs H Q _ => ∃ (x : V) (n : Int), vs = [x, .int n] ∧ Q .non H
def spCkBet : Sp := fun vs H Q _ => ∃ (x : V) (n lo hi : Int), vs = [x, .int n, .int lo, .int hi] ∧ lo ≤ n ∧ n ≤ hi ∧ Q .non H
theorem kit_ii : PySem.W.kitOne K (.type "int") (.type "int") = some true := kit_ty (by decide +kernel)
theorem kit_ib : PySem.W.kitOne K (.type "int") (.type "bool") = some false := kit_ty (by decide +kernel)
theorem kit_bb : PySem.W.kitOne K (.type "bool") (.type "bool") = some true := kit_ty (by decide +kernel)
theorem kit_ll : PySem.W.kitOne K (.type "list") (.type "list") = some true := kit_ty (by decide +kernel)
abbrev N_is_integer : List Str := ["value"]
theorem sc_is_integer : FnScope N_is_integer ["value"] (defScope s_is_integer) := ⟨rfl, rfl, rfl, by decide +kernel, rfl, by decide +kernel, by decide +kernel⟩
theorem c_is_integer (T : Tx K mg) : C8.Cal P w K mg base 1 "is_integer" spIsInt [] := by
  refine T.cal 4 5 rfl rfl sc_is_integer ?_ (fun _ _ _ _ _ _ us hl => match us, hl with | [_], _ => rfl) ?_
  · rintro vs H Q E ⟨n, rfl, _⟩; rfl
  · rintro cdv A outer s H vs Q E hr ⟨n, rfl, h⟩
    refine ⟨_, (pss_one (ps_ret (pe_and (pe_callB call_isi (by rfl) T.n_isinstance boot_isinst (pa_cons (pv 0) (pa_cons (pe_bltn (v := .ty "int") rfl T.n_int boot_int_ rfl) pa_nil))) (pe_one (pe_not (pe_callB call_isi (by rfl) T.n_isinstance boot_isinst (pa_cons (pv 0) (pa_cons (pe_bltn (v := .ty "bool") rfl T.n_bool boot_bool_ rfl) pa_nil)))))))), ?_⟩
    refine ⟨_, rfl, _, _, _, _, true, rfl, .ty "int", .base (.int n), kit_ii, true, rfl, iteT ?_⟩
    exact ⟨_, rfl, _, _, _, _, false, rfl, .ty "bool", .base (.int n), kit_ib, false, rfl, h⟩
abbrev N_is_between : List Str := ["value", "low", "high"]
theorem sc_is_between : FnScope N_is_between ["value", "low", "high"] (defScope s_is_between) := ⟨rfl, rfl, rfl, by decide +kernel, rfl, by decide +kernel, by decide +kernel⟩
theorem c_is_between (T : Tx K mg) : C8.Cal P w K mg base 2 "is_between" spBetween [] := by
  have c_is_integer : C8.Cal P w K mg base 1 "is_integer" spIsInt [] := c_is_integer T
  refine T.cal 5 6 rfl rfl sc_is_between ?_ (fun _ _ _ _ _ _ us hl => match us, hl with | [_, _, _], _ => rfl) ?_
  · rintro vs H Q E ⟨n, lo, hi, rfl, _⟩; rfl
  · rintro cdv A outer s H vs Q E hr ⟨n, lo, hi, rfl, h⟩
    refine ⟨_, (pss_one (ps_ret (pe_and (C8.pe_c c_is_integer hr (by decide) rfl (pa_cons (pv 0) pa_nil)) (pe_one (pe_chain op_le op_le (pv 1) (pv 0) (pv 2)))))), ?_⟩
    refine ⟨_, rfl, n, rfl, true, rfl, iteT ⟨_, rfl, _, rfl, _, _, rfl, rfl, decide (lo ≤ n), rfl, ?_⟩⟩
    cases e : decide (lo ≤ n) with
    | true =>
      rw [e] at h
      exact iteT ⟨_, rfl, _, _, rfl, rfl, h⟩
    | false =>
      rw [e] at h
      exact iteF h
abbrev N_check_integer : List Str := ["argument", "value"]
theorem sc_check_integer : FnScope N_check_integer ["argument", "value"] (defScope s_check_integer) := ⟨rfl, rfl, rfl, by decide +kernel, rfl, by decide +kernel, by decide +kernel⟩
theorem c_check_integer (T : Tx K mg) : C8.Cal P w K mg base 2 "check_integer" spCkInt [] := by
  have c_is_integer : C8.Cal P w K mg base 1 "is_integer" spIsInt [] := c_is_integer T
  refine T.cal 6 7 rfl rfl sc_check_integer ?_ (fun _ _ _ _ _ _ us hl => match us, hl with | [_, _], _ => rfl) ?_
  · rintro vs H Q E ⟨x, n, rfl, _⟩; rfl
  · rintro cdv A outer s H vs Q E hr ⟨x, n, rfl, h⟩
    refine ⟨_, (pss_one (ps_if (pt_not (pt_val (C8.pe_c c_is_integer hr (by decide) rfl (pa_cons (pv 1) pa_nil)))) (pss_one ps_never) pss_nil)), ?_⟩
    exact ⟨_, rfl, n, rfl, true, rfl, iteF h⟩
abbrev N_check_between : List Str := ["argument", "value", "low", "high"]
theorem sc_check_between : FnScope N_check_between ["argument", "value", "low", "high"] (defScope s_check_between) := ⟨rfl, rfl, rfl, by decide +kernel, rfl, by decide +kernel, by decide +kernel⟩
theorem c_check_between (T : Tx K mg) : C8.Cal P w K mg base 3 "check_between" spCkBet [] := by
  have c_is_between : C8.Cal P w K mg base 2 "is_between" spBetween [] := c_is_between T
  refine T.cal 7 8 rfl rfl sc_check_between ?_ (fun _ _ _ _ _ _ us hl => match us, hl with | [_, _, _, _], _ => rfl) ?_
  · rintro vs H Q E ⟨x, n, lo, hi, rfl, _⟩; rfl
  · rintro cdv A outer s H vs Q E hr ⟨x, n, lo, hi, rfl, h1, h2, h⟩
    refine ⟨_, (pss_one (ps_if (pt_not (pt_val (C8.pe_c c_is_between hr (by decide) rfl (pa_cons (pv 1) (pa_cons (pv 2) (pa_cons (pv 3) pa_nil)))))) (pss_one ps_never) pss_nil)), ?_⟩
    refine ⟨_, rfl, _, rfl, _, rfl, n, lo, hi, rfl, true, ?_, iteF h⟩
    rw [decide_eq_true h1, decide_eq_true h2]; rfl
/-! ### kinds -/
def spKiInit (K : PySem.W.Frag) : Sp := fun vs H Q _ => ∃ (p dx : Addr) (k : Kd), vs = [.ref p, .int (k.w : Int), .bl k.s] ∧ k.Ok ∧ H p = some (.ins (CK K) dx []) ∧ Q .non (upd H p (.ins (CK K) dx (kfs k)))
abbrev N_Kind_init : List Str := ["self", "bits", "is_signed"]
theorem sc_Kind_init : FnScope N_Kind_init ["self", "bits", "is_signed"] (defScope s_Kind_init) := ⟨rfl, rfl, rfl, by decide +kernel, rfl, by decide +kernel, by decide +kernel⟩
theorem k_Kind (T : Tx K mg) : C8.Mak P w K mg base 3 "Kind" (CK K) (spKiInit K) [] := by
  have c_is_between : C8.Cal P w K mg base 2 "is_between" spBetween [] := c_is_between T
  refine T.mak 8 72 9 rfl rfl rfl sc_Kind_init ?_ (fun _ _ _ _ _ _ us hl => match us, hl with | [_, _, _], _ => rfl) ?_
  · rintro vs H Q E ⟨p, dx, k, rfl, _⟩; rfl
  · rintro cdv A outer s H vs Q E hr ⟨p, dx, k, rfl, hk, hp, h⟩
    refine ⟨_, (pss_cons (ps_if (pt_not (pt_val (C8.pe_c c_is_between hr (by decide) rfl (pa_cons (pv 1) (pa_cons pe_int (pa_cons (C8.pe_gc rfl T.MOST_BITS) pa_nil)))))) (pss_one ps_never) pss_nil)
      (pss_cons (ps_if (pt_not (pt_val (pe_callB call_isi (by rfl) T.n_isinstance boot_isinst (pa_cons (pv 2) (pa_cons (pe_bltn (v := .ty "bool") rfl T.n_bool boot_bool_ rfl) pa_nil))))) (pss_one ps_never) pss_nil)
      (pss_cons (ps_fld (pv 0) (pv 1) rfl)
      (pss_one (ps_fld (pv 0) (pv 2) rfl))))), ?_⟩
    refine ⟨_, rfl, _, 1, 128, rfl, true, ?_, iteF ?_⟩
    · have h1 := hk.1
      have h2 := hk.2
      rw [decide_eq_true (show (1 : Int) ≤ (k.w : Int) by omega), decide_eq_true (show (k.w : Int) ≤ 128 by omega)]; rfl
    refine ⟨_, rfl, _, _, _, _, true, rfl, .ty "bool", .base (.bl k.s), kit_bb, true, rfl, iteF ?_⟩
    refine ⟨_, rfl, _, rfl, p, CK K, dx, [], rfl, hp, T.cK, T.K_bits, by show 0 < 1000; decide, ?_⟩
    refine ⟨_, rfl, _, rfl, p, CK K, dx, _, rfl, upd_same, T.cK, T.K_is_signed, by show 1 < 1000; decide, ?_⟩
    rw [upd_upd]
    exact h
/-- Kind(w, s) -/
theorem make_kind {H : Hp} {k : Kd} {Q : Hp → Prop} {x dx : Addr} (hx : H x = none) (hd : H dx = none) (_hne : dx ≠ x) (hk : k.Ok) (h : ∀ H', Same H H' → KiAt K H' (.ref x) k → Q H') :
    spKiInit K [.ref x, .int (k.w : Int), .bl k.s] (upd (upd H dx (.own x)) x (.ins (CK K) dx [])) (fun v H2 => v = .non ∧ Q H2) E0 := by
  refine ⟨x, dx, k, rfl, hk, upd_same, rfl, ?_⟩
  rw [upd_upd]
  exact h _ (same_own (same_new hd) hx) ⟨x, dx, rfl, upd_same⟩
def spKiParts (K : PySem.W.Frag) : Sp := fun vs H Q _ => ∃ (v : V) (k : Kd), vs = [v] ∧ KiAt K H v k ∧ ∀ t H', Same H H' → ShAt H' t k → Q t H'
abbrev N_Kind_parts : List Str := ["self"]
theorem sc_Kind_parts : FnScope N_Kind_parts ["self"] (defScope s_Kind_parts) := ⟨rfl, rfl, rfl, by decide +kernel, rfl, by decide +kernel, by decide +kernel⟩
theorem m_Kind_parts (T : Tx K mg) : C8.Met P w K mg base 1 (CK K) "parts" (spKiParts K) [] := by
  refine T.met 10 71 75 rfl rfl rfl sc_Kind_parts ?_ (fun _ _ _ _ _ _ us hl => match us, hl with | [_], _ => rfl) ?_
  · rintro vs H Q E ⟨v, k, rfl, _⟩; rfl
  · rintro cdv A outer s H vs Q E hr ⟨v, k, rfl, ⟨p, dx, rfl, hp⟩, h⟩
    refine ⟨_, (pss_one (ps_ret (pe_tup (pa_cons (pe_fld (pv 0) rfl) (pa_cons (pe_fld (pv 0) rfl) pa_nil))))), ?_⟩
    refine ⟨_, rfl, p, _, dx, _, _, rfl, hp, T.cK, T.K_bits, kfs_bits k, _, rfl, p, _, dx, _, _, rfl, hp, T.cK, T.K_is_signed, kfs_sg k, by show 2 ≤ sizeLine; decide, fun t ht => ?_⟩
    exact h _ _ (same_new ht) ⟨t, rfl, upd_same⟩
end
end Fw



/-! Comprehensions in two forms; kinds, casts. -/
namespace Fw
open PySem PySem.Spec PyProof.Rows L2 Rw
/-- kept by growth, and where a list elsewhere changes -/
structure Sta {α : Type} (R : Hp → V → α → Prop) : Prop where
  mono : Mono R
  upd : ∀ (H : Hp) (a : Addr) (xs ys : List V) (v : V) (x : α), H a = some (.lst xs) → R H v x → R (upd H a (.lst ys)) v x
theorem upd_other {H : Hp} {a p : Addr} {xs ys : List V} {o : HO} (h : H a = some (.lst xs)) (hp : H p = some o) (hn : ∀ zs, o ≠ .lst zs) : L2.upd H a (.lst ys) p = some o := by
  rw [upd_ne (ne_of hp h (hn xs))]; exact hp
theorem sta_ki {K : PySem.W.Frag} : Sta (KiAt K) := ⟨KiAt.mono, fun _ _ _ _ _ _ h ⟨p, dx, e, hp⟩ => ⟨p, dx, e, upd_other h hp (fun _ z => by cases z)⟩⟩
theorem sta_sh : Sta ShAt := ⟨ShAt.mono, fun _ _ _ _ _ _ h ⟨p, e, hp⟩ => ⟨p, e, upd_other h hp (fun _ z => by cases z)⟩⟩
theorem sta_rg : Sta RgAt := ⟨RgAt.mono, fun _ _ _ _ _ _ h ⟨p, e, hp⟩ => ⟨p, e, upd_other h hp (fun _ z => by cases z)⟩⟩
/-- a plain value -/
def IsV (_ : Hp) (v : V) (x : V) : Prop := v = x
theorem sta_v : Sta IsV := ⟨fun _ _ _ _ _ h => h, fun _ _ _ _ _ _ _ h => h⟩
def IsI (_ : Hp) (v : V) (n : Int) : Prop := v = .int n
theorem sta_i : Sta IsI := ⟨fun _ _ _ _ _ h => h, fun _ _ _ _ _ _ _ h => h⟩
theorem ints_of {H : Hp} : ∀ {vs : List V} {ns : List Int}, Paired (IsI H) vs ns → vs = ns.map V.int
  | _, _, .nil => rfl
  | _, _, .cons h r => by cases h; rw [ints_of r]; rfl
theorem of_ints {H : Hp} : ∀ ns : List Int, Paired (IsI H) (ns.map V.int) ns
  | [] => .nil
  | _ :: ns => .cons rfl (of_ints ns)
theorem Sta.paired {α : Type} {R : Hp → V → α → Prop} (m : Sta R) {H : Hp} {a : Addr} {xs ys : List V} (h : H a = some (.lst xs)) {vs : List V} {zs : List α} (p : Paired (R H) vs zs) : Paired (R (L2.upd H a (.lst ys))) vs zs :=
  L2.Paired.mapP p fun v x => m.upd H a xs ys v x h
theorem Sta.same {α : Type} {R : Hp → V → α → Prop} (m : Sta R) {H H' : Hp} (s : Same H H') {vs : List V} {zs : List α} (p : Paired (R H) vs zs) : Paired (R H') vs zs :=
  L2.Paired.mapP p fun v x => m.mono H H' v x s
theorem small {n : Nat} (h : n ≤ 100000) : n < sizeLine := by rw [sizeLine_eq]; omega
theorem small' {n : Nat} (h : n ≤ 100000) : n ≤ sizeLine := Nat.le_of_lt (small h)
/-- [e for x in xs], e a new thing for each -/
theorem lc_new {K : PySem.W.Frag} {β : Type} {R' : Hp → V → β → Prop} (m' : Sta R') {a : Addr} {vs : List V} {g : TG} {te : TE} {own : List Nat} {σ : L2.St} {H1 : Hp} {D : Addr} {Qd : Hp → Prop} (ys : List β) (hlen : vs.length = ys.length) (h60 : ys.length ≤ 100000)
    (hD : H1 D = none) (ha : SqL K H1 a vs)
    (turn : ∀ (i : Nat) (x : V) (H : Hp), vs[i]? = some x → Same H1 H → ∀ Q' : V → Hp → Prop, (∀ y b H', ys[i]? = some b → Same H H' → R' H' y b → Q' y H') → g x (wipe σ own) H fun σ2 H2 => wipe σ2 own = wipe σ own ∧ te σ2 H2 Q')
    (done : ∀ us H, Same H1 H → H D = some (.lst us) → Paired (R' H) us ys → Qd H) :
    ∃ W : Nat → Nat → Hp → Prop, (∃ m, W 0 m (L2.upd H1 D (.lst []))) ∧ ∀ i m H, W i m H →
      ((Itl K a).stop i H ∧ Qd H) ∨ ((Itl K a).go i H ∧ ∃ Nx : Hp → Prop, (∀ H', Nx H' → ∃ m', m' < m ∧ W (i + 1) m' H') ∧ ∀ x H', (Itl K a).yld i H x H' → g x (wipe σ own) H' fun σ2 H2 => wipe σ2 own = wipe σ own ∧ tYes σ2 H2 fun b H3 =>
        if b = true then te σ2 H3 fun y H4 => ∃ acc, H4 D = some (.lst acc) ∧ acc.length < sizeLine ∧ Nx (L2.upd H4 D (.lst (acc ++ [y]))) else Nx H3) := by
  refine lc_list (K := K) (a := a) (xs := vs) (fun i H => Same H1 H ∧ ∃ us, H D = some (.lst us) ∧ Paired (R' H) us (ys.take i)) ⟨same_new hD, [], upd_same, .nil⟩ (fun i H _ z => z.1.seq ha) (fun i x H hi z => ?_) (fun H z => ?_)
  · obtain ⟨s, us, hd, hp⟩ := z
    have hlt : i < ys.length := by rw [← hlen]; exact (List.getElem?_eq_some_iff.mp hi).1
    have hul : us.length = i := by rw [PySem.Paired.length hp, List.length_take]; omega
    refine turn i x H hi s _ fun y b H' hb s' r => ?_
    refine ⟨us, s' _ _ hd, small (by omega), same_own (s.trans s') hD, us ++ [y], upd_same, ?_⟩
    have e : ys.take (i + 1) = ys.take i ++ [b] := by rw [List.take_add_one, hb]; rfl
    rw [e]
    have hd' := s' _ _ hd
    exact Paired.app (m'.paired hd' (m'.same s' hp)) (.cons (m'.upd _ _ _ _ _ _ hd' r) .nil)
  · obtain ⟨s, us, hd, hp⟩ := z
    rw [hlen, List.take_length] at hp
    exact done us H s hd hp
/-- [e for x in xs if t], e and t plain; st: the slots behind the target -/
theorem lc_fil {K : PySem.W.Frag} {β : Type} {a : Addr} {vs : List V} {g : TG} {tt : TT} {te : TE} {own : List Nat} {σ : L2.St} {H1 : Hp} {D : Addr} {Qd : Hp → Prop} (zs : List β) (p : β → Bool) (f : β → V) (st : β → L2.St) (hlen : vs.length = zs.length) (h60 : zs.length ≤ 100000)
    (hD : H1 D = none) (ha : SqL K H1 a vs)
    (hg : ∀ (i : Nat) (x : V) (z : β) (H : Hp) (k : L2.St → Hp → Prop), vs[i]? = some x → zs[i]? = some z → Same H1 H → k (st z) H → g x (wipe σ own) H k) (hw : ∀ z, wipe (st z) own = wipe σ own)
    (ht : ∀ (z : β) (H : Hp) (Q : Bool → Hp → Prop), z ∈ zs → Same H1 H → (∀ H', Same H H' → Q (p z) H') → tt (st z) H Q) (he : ∀ (z : β) (H : Hp) (Q : VK), z ∈ zs → Same H1 H → Q (f z) H → te (st z) H Q)
    (done : ∀ H, Same H1 H → H D = some (.lst ((zs.filter p).map f)) → Qd H) :
    ∃ W : Nat → Nat → Hp → Prop, (∃ m, W 0 m (L2.upd H1 D (.lst []))) ∧ ∀ i m H, W i m H →
      ((Itl K a).stop i H ∧ Qd H) ∨ ((Itl K a).go i H ∧ ∃ Nx : Hp → Prop, (∀ H', Nx H' → ∃ m', m' < m ∧ W (i + 1) m' H') ∧ ∀ x H', (Itl K a).yld i H x H' → g x (wipe σ own) H' fun σ2 H2 => wipe σ2 own = wipe σ own ∧ tt σ2 H2 fun b H3 =>
        if b = true then te σ2 H3 fun y H4 => ∃ acc, H4 D = some (.lst acc) ∧ acc.length < sizeLine ∧ Nx (L2.upd H4 D (.lst (acc ++ [y]))) else Nx H3) := by
  refine lc_list (K := K) (a := a) (xs := vs) (fun i H => Same H1 H ∧ H D = some (.lst (((zs.take i).filter p).map f))) ⟨same_new hD, upd_same⟩ (fun i H _ z => z.1.seq ha) (fun i x H hi z => ?_) (fun H z => ?_)
  · obtain ⟨s, hd⟩ := z
    have hlt : i < zs.length := by rw [← hlen]; exact (List.getElem?_eq_some_iff.mp hi).1
    have hz : zs[i]? = some zs[i] := List.getElem?_eq_getElem hlt
    have hm : zs[i] ∈ zs := List.getElem_mem hlt
    have e : zs.take (i + 1) = zs.take i ++ [zs[i]] := by rw [List.take_add_one, hz]; rfl
    refine hg i x zs[i] H _ hi hz s ⟨hw _, ht _ H _ hm s fun H' s' => ?_⟩
    cases hp : p zs[i] with
    | true =>
      refine iteT (he _ H' _ hm (s.trans s') ⟨_, s' _ _ hd, small ?_, same_own (s.trans s') hD, ?_⟩)
      · rw [List.length_map]
        have := List.length_filter_le p (zs.take i)
        rw [List.length_take] at this
        omega
      · rw [e, List.filter_append, List.map_append]
        simp only [List.filter_cons, hp]
        exact upd_same
    | false =>
      refine iteF ⟨s.trans s', ?_⟩
      rw [e, List.filter_append, List.map_append]
      simp only [List.filter_cons, hp]
      simpa using s' _ _ hd
  · obtain ⟨s, hd⟩ := z
    rw [hlen, List.take_length] at hd
    exact done H s hd
section
variable {P : Program} {w : World} {K : PySem.W.Frag} {mg : Str → Option Value} {base : Heap}
def spKi (K : PySem.W.Frag) (r : Kd → V) : Sp := fun vs H Q _ => ∃ (v : V) (k : Kd), vs = [v] ∧ KiAt K H v k ∧ k.Ok ∧ Q (r k) H
abbrev N_check_kind : List Str := ["value"]
theorem sc_check_kind : FnScope N_check_kind ["value"] (defScope s_check_kind) := ⟨rfl, rfl, rfl, by decide +kernel, rfl, by decide +kernel, by decide +kernel⟩
theorem c_check_kind (T : Tx K mg) : C8.Cal P w K mg base 1 "check_kind" (spKi K fun _ => .non) [] := by
  refine T.cal 11 10 rfl rfl sc_check_kind ?_ (fun _ _ _ _ _ _ us hl => match us, hl with | [_], _ => rfl) ?_
  · rintro vs H Q E ⟨v, k, rfl, _⟩; rfl
  · rintro cdv A outer s H vs Q E hr ⟨v, k, rfl, ⟨p, dx, rfl, hp⟩, hk, h⟩
    refine ⟨_, (pss_one (ps_if (pt_not (pt_val (pe_callB (C8.call_isC T.ins) (by rfl) T.n_isinstance boot_isinst (pa_cons (pv 0) (pa_cons (pe_glob (v := .ref (He.ga K "Kind")) rfl T.g_Kind rfl) pa_nil))))) (pss_one ps_never) pss_nil)), ?_⟩
    exact ⟨_, rfl, p, dx, _, rfl, hp, true, rfl, iteF h⟩
abbrev N_size_of : List Str := ["kind"]
theorem sc_size_of : FnScope N_size_of ["kind"] (defScope s_size_of) := ⟨rfl, rfl, rfl, by decide +kernel, rfl, by decide +kernel, by decide +kernel⟩
theorem c_size_of (T : Tx K mg) : C8.Cal P w K mg base 1 "size_of" (spKi K fun k => .int (P2 k.w)) [] := by
  refine T.cal 12 11 rfl rfl sc_size_of ?_ (fun _ _ _ _ _ _ us hl => match us, hl with | [_], _ => rfl) ?_
  · rintro vs H Q E ⟨v, k, rfl, _⟩; rfl
  · rintro cdv A outer s H vs Q E hr ⟨v, k, rfl, ⟨p, dx, rfl, hp⟩, hk, h⟩
    refine ⟨_, (pss_one (ps_ret (pe_op op_shl1 pe_int (pe_fld (pv 0) rfl)))), ?_⟩
    refine ⟨_, rfl, p, _, dx, _, _, rfl, hp, T.cK, T.K_bits, kfs_bits k, k.w, rfl, rfl, by have := hk.2; omega, h⟩
abbrev N_low_of : List Str := ["kind"]
theorem sc_low_of : FnScope N_low_of ["kind"] (defScope s_low_of) := ⟨rfl, rfl, rfl, by decide +kernel, rfl, by decide +kernel, by decide +kernel⟩
theorem c_low_of (T : Tx K mg) : C8.Cal P w K mg base 1 "low_of" (spKi K fun k => .int (Rw.lo k)) [] := by
  refine T.cal 13 12 rfl rfl sc_low_of ?_ (fun _ _ _ _ _ _ us hl => match us, hl with | [_], _ => rfl) ?_
  · rintro vs H Q E ⟨v, k, rfl, _⟩; rfl
  · rintro cdv A outer s H vs Q E hr ⟨v, k, rfl, ⟨p, dx, rfl, hp⟩, hk, h⟩
    refine ⟨_, (pss_one (ps_ret (pe_ifExp (pt_val (pe_fld (pv 0) rfl)) (pe_op op_sub pe_int (pe_op op_shl1 pe_int (pe_op op_sub (pe_fld (pv 0) rfl) pe_int))) pe_int))), ?_⟩
    have h1 := hk.1
    have h2 := hk.2
    refine ⟨_, rfl, p, _, dx, _, _, rfl, hp, T.cK, T.K_is_signed, kfs_sg k, _, rfl, ?_⟩
    have h : Q (.int (Rw.lo k)) H := h
    unfold Rw.lo at h
    cases e : k.s with
    | true =>
      rw [e, if_pos rfl] at h
      refine iteT ⟨_, rfl, p, _, dx, _, _, rfl, hp, T.cK, T.K_bits, kfs_bits k, _, _, rfl, rfl, k.w - 1, rfl, pred_i h1, by omega, _, _, rfl, rfl, h⟩
    | false =>
      rw [e, if_neg (by decide)] at h
      exact iteF h
def spPlaced (K : PySem.W.Frag) : Sp := fun vs H Q _ => ∃ (v : V) (k : Kd) (n : Int), vs = [v, .int n] ∧ KiAt K H v k ∧ k.Ok ∧ Q (.int (put k n)) H
abbrev N_placed : List Str := ["kind", "n"]
theorem sc_placed : FnScope N_placed ["kind", "n"] (defScope s_placed) := ⟨rfl, rfl, rfl, by decide +kernel, rfl, by decide +kernel, by decide +kernel⟩
theorem c_placed (T : Tx K mg) : C8.Cal P w K mg base 2 "placed" (spPlaced K) [] := by
  have c_low_of : C8.Cal P w K mg base 1 "low_of" (spKi K fun k => .int (Rw.lo k)) [] := c_low_of T
  have c_size_of : C8.Cal P w K mg base 1 "size_of" (spKi K fun k => .int (P2 k.w)) [] := c_size_of T
  refine T.cal 14 13 rfl rfl sc_placed ?_ (fun _ _ _ _ _ _ us hl => match us, hl with | [_, _], _ => rfl) ?_
  · rintro vs H Q E ⟨v, k, n, rfl, _⟩; rfl
  · rintro cdv A outer s H vs Q E hr ⟨v, k, n, rfl, hv, hk, h⟩
    refine ⟨_, (pss_one (ps_ret (pe_op op_add (C8.pe_c c_low_of hr (by decide) rfl (pa_cons (pv 0) pa_nil)) (pe_op op_mod (pe_op op_sub (pv 1) (C8.pe_c c_low_of hr (by decide) rfl (pa_cons (pv 0) pa_nil))) (C8.pe_c c_size_of hr (by decide) rfl (pa_cons (pv 0) pa_nil)))))), ?_⟩
    refine ⟨_, rfl, v, k, rfl, hv, hk, _, rfl, _, rfl, v, k, rfl, hv, hk, _, _, rfl, rfl, _, rfl, v, k, rfl, hv, hk, _, _, rfl, rfl, P2_pos _, _, _, rfl, rfl, h⟩
/-- a list of kinds -/
abbrev KsAt (K : PySem.W.Frag) (H : Hp) (v : V) (ks : List Kd) : Prop := LsAt (KiAt K) H v ks
def RowOk (ks : List Kd) : Prop := 1 ≤ ks.length ∧ ks.length ≤ 20 ∧ ∀ k ∈ ks, k.Ok
def spCast (K : PySem.W.Frag) : Sp := fun vs H Q _ => ∃ (v : V) (ks : List Kd) (n : Int), vs = [v, .int n] ∧ KsAt K H v ks ∧ RowOk ks ∧ ∀ H', Same H H' → Q (.int (castL ks n)) H'
/-- all([isinstance(kind, Kind) for kind in kinds]) -/
def tIsK (K : PySem.W.Frag) (i : Nat) : TE := tCB (fun xs H Q => ∃ a dx fs, xs = [.ref a, .ref (CK K)] ∧ H a = some (.ins (CK K) dx fs) ∧ Q (.bl true) H) (tCons (tVar i) (tCons (tC (.ref (CK K))) tNil))
theorem all_true {H : Hp} : ∀ {vs : List V} {n : Nat}, Paired (IsV H) vs (List.replicate n (V.bl true)) → vs = (List.replicate n true).map V.bl
  | _, 0, .nil => rfl
  | _, n + 1, .cons h r => by cases h; rw [all_true r]; rfl
theorem all_id (n : Nat) : (List.replicate n true).all id = true := by
  induction n with
  | zero => rfl
  | succ n ih => rw [List.replicate_succ, List.all_cons, ih]; rfl
abbrev N_cast : List Str := ["kinds", "n", "kind"]
theorem sc_cast : FnScope N_cast ["kinds", "n"] (defScope s_cast) := ⟨rfl, rfl, rfl, by decide +kernel, rfl, by decide +kernel, by decide +kernel⟩
theorem c_cast (T : Tx K mg) : C8.Cal P w K mg base 3 "cast" (spCast K) [] := by
  have c_placed : C8.Cal P w K mg base 2 "placed" (spPlaced K) [] := c_placed T
  have c_check_integer : C8.Cal P w K mg base 2 "check_integer" spCkInt [] := c_check_integer T
  refine T.cal 15 14 rfl rfl sc_cast ?_ (fun _ _ _ _ _ _ us hl => match us, hl with | [_, _], _ => rfl) ?_
  · rintro vs H Q E ⟨v, ks, n, rfl, _⟩; rfl
  · rintro cdv A outer s H vs Q E hr ⟨v, ks, n, rfl, ⟨a, us, rfl, ha, hp⟩, ⟨h1, h20, hks⟩, h⟩
    refine ⟨_, (pss_cons (ps_if (PW.pt (pw_or (pt_not (pt_val (pe_callB call_isi (by rfl) T.n_isinstance boot_isinst (pa_cons (pv 0) (pa_cons (pe_bltn (v := .ty "list") rfl T.n_list boot_list_ rfl) pa_nil))))) (pw_or1 (pt_not (pt_chain op_le op_le pe_int (pe_callB call_len_seq (by rfl) T.n_len boot_len_ (pa_cons (pv 0) pa_nil)) (C8.pe_gc rfl T.MOST_KINDS)))))) (pss_one ps_never) pss_nil)
      (pss_cons (ps_if (pt_not (pt_val (pe_callB (cr_all rfl) (by rfl) T.n_all boot_all_ (pa_cons (pe_lc (own := [("kind", 2)]) (g := gName 2) (tt := tYes) (te := (tIsK K 2)) rfl sc_cast.nd (pi_list (pv 0)) (blkOk_by (own := [("kind", 2)]) (N := N_cast) (sc := (defScope s_cast)) (by decide +kernel)) (fun _ _ _ _ _ => (pg_name (i := 2) sc_cast.nd rfl (Or.inl rfl))) (fun _ _ _ _ _ => pts_nil) (fun _ _ _ _ _ => (pe_callB (C8.call_isC T.ins) (by rfl) T.n_isinstance boot_isinst (pa_cons (pv 2) (pa_cons (pe_glob (v := .ref (He.ga K "Kind")) rfl T.g_Kind rfl) pa_nil))))) pa_nil)))) (pss_one ps_never) pss_nil)
      (pss_cons (ps_expr (C8.pe_c c_check_integer hr (by decide) rfl (pa_cons pe_str (pa_cons (pv 1) pa_nil))))
      (pss_cons (ps_for PassesOwn.never rfl (pi_list (pv 0)) (pg_name (i := 2) sc_cast.nd rfl (Or.inl rfl))
        (pss_one (ps_set (i := 1) sc_cast.nd rfl (Or.inl rfl) (C8.pe_c c_placed hr (by decide) rfl (pa_cons (pv 2) (pa_cons (pv 1) pa_nil))))))
      (pss_one (ps_ret (pv 1))))))), ?_⟩
    have hlen := PySem.Paired.length hp
    refine ⟨_, rfl, _, _, _, _, true, rfl, .ty "list", .base (.lst ha), kit_ll, true, rfl, iteF ?_⟩
    refine ⟨_, rfl, a, us, rfl, .inl (SqL.of ha), _, _, rfl, rfl, decide ((1 : Int) ≤ (us.length : Int)), rfl, ?_⟩
    rw [decide_eq_true (by omega : (1 : Int) ≤ (us.length : Int))]
    refine iteT ⟨_, _, rfl, rfl, _, rfl, ?_⟩
    rw [decide_eq_true (by omega : (us.length : Int) ≤ 20)]
    refine iteF ?_
    refine ⟨_, rfl, a, rfl, ⟨_, SqL.of ha⟩, fun D hD => lc_new (K := K) sta_v (List.replicate us.length (V.bl true)) (by simp) (by simp; omega) hD (SqL.of ha) (fun i x H' hi s' Q' k => ?_) (fun bs H' s' hd hb => ?_)⟩
    · obtain ⟨k0, hk0, p, dx, rfl, hpk⟩ := Paired.get hp hi
      refine ⟨rfl, _, rfl, p, dx, _, rfl, s' _ _ hpk, k _ (.bl true) H' ?_ (Same.refl _) rfl⟩
      rw [List.getElem?_replicate, if_pos (List.getElem?_eq_some_iff.mp hi).1]
    refine ⟨D, List.replicate us.length true, rfl, SqL.of (by rw [hd, all_true hb]), true, ?_, iteF ?_⟩
    · rw [all_id]
    refine ⟨_, rfl, _, n, rfl, ?_⟩
    refine ⟨_, rfl, a, rfl, ⟨_, SqL.of (s' _ _ ha)⟩, for_list (K := K) (a := a) (xs := us) (fun i σ H2 => ∃ o, σ = [some (.ref a), some (.int (castL (ks.take i) n)), o] ∧ H2 = H') ⟨none, rfl, rfl⟩ (fun i σ H2 _ ⟨_, _, e⟩ => by rw [e]; exact SqL.of (s' _ _ ha)) ?_ ?_⟩
    · rintro i x σ H2 hi ⟨o, rfl, rfl⟩
      obtain ⟨k0, hk0, hki⟩ := Paired.get hp hi
      have e : ks.take (i + 1) = ks.take i ++ [k0] := by rw [List.take_add_one, hk0]; rfl
      refine ⟨_, rfl, _, rfl, x, k0, _, rfl, KiAt.mono _ _ _ _ s' hki, hks _ (List.mem_of_getElem? hk0), some x, ?_, rfl⟩
      rw [e, castL_append]
      rfl
    · rintro σ H2 ⟨o, rfl, rfl⟩
      refine ⟨_, rfl, ?_⟩
      rw [hlen, List.take_length]
      exact h _ s'
end
end Fw



/-! Effects of rows. -/
namespace Fw
open PySem PySem.Spec PyProof.Rows L2 Rw
theorem cut1 (xs : List V) (h : 1 ≤ xs.length) : cutV xs (some 1) none = xs.drop 1 := by
  have e1 : HT.sIx xs.length 0 (some 1) = 1 := by unfold HT.sIx; simp; omega
  have e2 : HT.sIx xs.length xs.length none = xs.length := by unfold HT.sIx; simp
  unfold cutV
  rw [e1, e2]
  exact List.take_of_length_le (by rw [List.length_drop]; omega)
section
variable {P : Program} {w : World} {K : PySem.W.Frag} {mg : Str → Option Value} {base : Heap}
def spEfInit (K : PySem.W.Frag) : Sp := fun vs H Q _ => ∃ (p dx : Addr) (b wd : Nat) (bl : Bool), vs = [.ref p, .int (b : Int), .int (wd : Int), .bl bl] ∧ b ≤ 1000 ∧ wd ≤ 1000 ∧ H p = some (.ins (CE K) dx []) ∧
  Q .non (upd H p (.ins (CE K) dx (efs ⟨b, if bl = true then b else wd, bl⟩)))
abbrev N_Effect_init : List Str := ["self", "bits", "width", "is_below"]
theorem sc_Effect_init : FnScope N_Effect_init ["self", "bits", "width", "is_below"] (defScope s_Effect_init) := ⟨rfl, rfl, rfl, by decide +kernel, rfl, by decide +kernel, by decide +kernel⟩
theorem k_Effect (T : Tx K mg) : C8.Mak P w K mg base 1 "Effect" (CE K) (spEfInit K) [] := by
  refine T.mak 16 78 15 rfl rfl rfl sc_Effect_init ?_ (fun _ _ _ _ _ _ us hl => match us, hl with | [_, _, _, _], _ => rfl) ?_
  · rintro vs H Q E ⟨p, dx, b, wd, bl, rfl, _⟩; rfl
  · rintro cdv A outer s H vs Q E hr ⟨p, dx, b, wd, bl, rfl, hb, hw, hp, h⟩
    refine ⟨_, (pss_cons (ps_fld (pv 0) (pv 1) rfl)
      (pss_cons (ps_fld (pv 0) (pe_ifExp (pt_val (pv 3)) (pv 1) (pv 2)) rfl)
      (pss_cons (ps_fld (pv 0) (pv 3) rfl)
      (pss_one (ps_fld (pv 0) (pe_ifExp (pt_val (pv 3)) (pe_op op_sub pe_int (pe_op op_shl1 pe_int (pv 1))) (pe_op op_sub (pe_op op_shl1 pe_int (pv 2)) (pe_op op_shl1 pe_int (pv 1)))) rfl))))), ?_⟩
    refine ⟨_, rfl, _, rfl, p, CE K, dx, [], rfl, hp, T.cE, T.E_bits, by show 0 < 1000; decide, ?_⟩
    cases bl with
    | true =>
      refine ⟨_, rfl, _, rfl, iteT ⟨_, rfl, _, rfl, p, CE K, dx, _, rfl, upd_same, T.cE, T.E_width, by show 1 < 1000; decide, ?_⟩⟩
      refine ⟨_, rfl, _, rfl, p, CE K, dx, _, rfl, upd_same, T.cE, T.E_is_below, by show 2 < 1000; decide, ?_⟩
      refine ⟨_, rfl, _, rfl, iteT ⟨_, rfl, b, rfl, rfl, by omega, _, _, rfl, rfl, _, rfl, p, CE K, dx, _, rfl, upd_same, T.cE, T.E_shift, by show 3 < 1000; decide, ?_⟩⟩
      rw [upd_upd, upd_upd, upd_upd]
      exact h
    | false =>
      refine ⟨_, rfl, _, rfl, iteF ⟨_, rfl, _, rfl, p, CE K, dx, _, rfl, upd_same, T.cE, T.E_width, by show 1 < 1000; decide, ?_⟩⟩
      refine ⟨_, rfl, _, rfl, p, CE K, dx, _, rfl, upd_same, T.cE, T.E_is_below, by show 2 < 1000; decide, ?_⟩
      refine ⟨_, rfl, _, rfl, iteF ⟨_, rfl, wd, rfl, rfl, by omega, _, rfl, b, rfl, rfl, by omega, _, _, rfl, rfl, _, rfl, p, CE K, dx, _, rfl, upd_same, T.cE, T.E_shift, by show 3 < 1000; decide, ?_⟩⟩
      rw [upd_upd, upd_upd, upd_upd]
      exact h
theorem make_effect {H : Hp} {b wd : Nat} {bl : Bool} {Q : Hp → Prop} {x dx : Addr} (hx : H x = none) (hd : H dx = none) (_hne : dx ≠ x) (hb : b ≤ 1000) (hw : wd ≤ 1000) (h : ∀ H', Same H H' → EfAt K H' (.ref x) ⟨b, if bl = true then b else wd, bl⟩ → Q H') :
    spEfInit K [.ref x, .int (b : Int), .int (wd : Int), .bl bl] (upd (upd H dx (.own x)) x (.ins (CE K) dx [])) (fun v H2 => v = .non ∧ Q H2) E0 := by
  refine ⟨x, dx, b, wd, bl, rfl, hb, hw, upd_same, rfl, ?_⟩
  rw [upd_upd]
  exact h _ (same_own (same_new hd) hx) ⟨x, dx, rfl, upd_same⟩
/-- a tuple of two ints, new -/
def rNew2 (H : Hp) (Q : VK) (r : Int × Int) : Prop := ∀ v H', Same H H' → RgAt H' v r → Q v H'
def spEf (K : PySem.W.Frag) (g : Hp → VK → Ef → Prop) : Sp := fun vs H Q _ => ∃ (v : V) (e : Ef), vs = [v] ∧ EfAt K H v e ∧ e.Ok ∧ g H Q e
abbrev N_Effect_parts : List Str := ["self"]
theorem sc_Effect_parts : FnScope N_Effect_parts ["self"] (defScope s_Effect_parts) := ⟨rfl, rfl, rfl, by decide +kernel, rfl, by decide +kernel, by decide +kernel⟩
theorem m_Effect_parts (T : Tx K mg) : C8.Met P w K mg base 1 (CE K) "parts" (spEf K fun H Q e => rNew2 H Q ((e.b : Int), e.sh)) [] := by
  refine T.met 17 77 83 rfl rfl rfl sc_Effect_parts ?_ (fun _ _ _ _ _ _ us hl => match us, hl with | [_], _ => rfl) ?_
  · rintro vs H Q E ⟨v, k, rfl, _⟩; rfl
  · rintro cdv A outer s H vs Q E hr ⟨v, e, rfl, ⟨p, dx, rfl, hp⟩, ho, h⟩
    refine ⟨_, (pss_one (ps_ret (pe_tup (pa_cons (pe_fld (pv 0) rfl) (pa_cons (pe_fld (pv 0) rfl) pa_nil))))), ?_⟩
    refine ⟨_, rfl, p, _, dx, _, _, rfl, hp, T.cE, T.E_bits, efs_bits e, _, rfl, p, _, dx, _, _, rfl, hp, T.cE, T.E_shift, efs_shift e, by show 2 ≤ sizeLine; decide, fun t ht => ?_⟩
    exact h _ _ (same_new ht) ⟨t, rfl, upd_same⟩
abbrev N_Effect_row : List Str := ["self"]
theorem sc_Effect_row : FnScope N_Effect_row ["self"] (defScope s_Effect_row) := ⟨rfl, rfl, rfl, by decide +kernel, rfl, by decide +kernel, by decide +kernel⟩
theorem m_Effect_row (T : Tx K mg) : C8.Met P w K mg base 5 (CE K) "row" (spEf K fun H Q e => ∀ v H', Same H H' → KsAt K H' v e.row → Q v H') [] := by
  have k_Kind : C8.Mak P w K mg base 3 "Kind" (CK K) (spKiInit K) [] := k_Kind T
  refine T.met 18 77 84 rfl rfl rfl sc_Effect_row ?_ (fun _ _ _ _ _ _ us hl => match us, hl with | [_], _ => rfl) ?_
  · rintro vs H Q E ⟨v, k, rfl, _⟩; rfl
  · rintro cdv A outer s H vs Q E hr ⟨v, e, rfl, ⟨p, dx, rfl, hp⟩, ho, h⟩
    refine ⟨_, (pss_cons (ps_if (pt_cmpR op_eqi (pe_fld (pv 0) rfl) (pe_fld (pv 0) rfl) (nomark _)) (pss_one (ps_ret (pe_lst (pa_cons (C8.pe_mk k_Kind hr (by decide) rfl (pa_cons (pe_fld (pv 0) rfl) (pa_cons (pe_fld (pv 0) rfl) pa_nil))) pa_nil)))) pss_nil)
      (pss_one (ps_ret (pe_lst (pa_cons (C8.pe_mk k_Kind hr (by decide) rfl (pa_cons (pe_fld (pv 0) rfl) (pa_cons pe_bl pa_nil))) (pa_cons (C8.pe_mk k_Kind hr (by decide) rfl (pa_cons (pe_fld (pv 0) rfl) (pa_cons pe_bl pa_nil))) pa_nil)))))), ?_⟩
    obtain ⟨o1, o2, o3, o4⟩ := ho
    refine ⟨_, rfl, p, _, dx, _, _, rfl, hp, T.cE, T.E_width, efs_width e, _, rfl, p, _, dx, _, _, rfl, hp, T.cE, T.E_bits, efs_bits e, _, _, rfl, rfl, _, rfl, ?_⟩
    unfold Ef.row at h
    by_cases c : e.wd = e.b
    · rw [if_pos c] at h
      rw [decide_eq_true (by omega : (e.wd : Int) = (e.b : Int))]
      refine iteT ⟨_, rfl, p, _, dx, _, _, rfl, hp, T.cE, T.E_bits, efs_bits e, _, rfl, p, _, dx, _, _, rfl, hp, T.cE, T.E_is_below, efs_below e, ?_⟩
      intro x dx' hx hd hne
      refine make_kind (k := ⟨e.b, e.below⟩) hx hd hne ⟨o1, by show e.b ≤ 128; omega⟩ fun H' s' hk => ⟨by show 1 ≤ sizeLine; decide, fun l hl => ?_⟩
      exact h _ _ (same_newer s' hl) ⟨l, _, rfl, upd_same, .cons (KiAt.mono _ _ _ _ (same_new hl) hk) .nil⟩
    · rw [if_neg c] at h
      rw [decide_eq_false (by omega : ¬ (e.wd : Int) = (e.b : Int))]
      refine iteF ⟨_, rfl, p, _, dx, _, _, rfl, hp, T.cE, T.E_bits, efs_bits e, ?_⟩
      intro x dx' hx hd hne
      refine make_kind (k := ⟨e.b, true⟩) hx hd hne ⟨o1, by show e.b ≤ 128; omega⟩ fun H' s' hk => ?_
      refine ⟨_, rfl, p, _, dx, _, _, rfl, s' _ _ hp, T.cE, T.E_width, efs_width e, ?_⟩
      intro x2 dx2 hx2 hd2 hne2
      refine make_kind (k := ⟨e.wd, false⟩) hx2 hd2 hne2 ⟨by show 1 ≤ e.wd; omega, o4⟩ fun H2 s2 hk2 => ⟨by show 2 ≤ sizeLine; decide, fun l hl => ?_⟩
      exact h _ _ (same_newer (s'.trans s2) hl) ⟨l, _, rfl, upd_same, .cons (KiAt.mono _ _ _ _ (same_newer s2 hl) hk) (.cons (KiAt.mono _ _ _ _ (same_new hl) hk2) .nil)⟩
abbrev RsAt (H : Hp) (v : V) (l : List (Int × Int)) : Prop := LsAt RgAt H v l
abbrev N_Effect_image : List Str := ["self", "half", "size"]
theorem sc_Effect_image : FnScope N_Effect_image ["self"] (defScope s_Effect_image) := ⟨rfl, rfl, rfl, by decide +kernel, rfl, by decide +kernel, by decide +kernel⟩
theorem m_Effect_image (T : Tx K mg) : C8.Met P w K mg base 1 (CE K) "image" (spEf K fun H Q e => ∀ v H', Same H H' → RsAt H' v e.image → Q v H') [] := by
  refine T.met 19 77 85 rfl rfl rfl sc_Effect_image ?_ (fun _ _ _ _ _ _ us hl => match us, hl with | [_], _ => rfl) ?_
  · rintro vs H Q E ⟨v, k, rfl, _⟩; rfl
  · rintro cdv A outer s H vs Q E hr ⟨v, e, rfl, ⟨p, dx, rfl, hp⟩, ho, h⟩
    refine ⟨_, (pss_cons (ps_par (i := 1) (j := 2) rfl sc_Effect_image.nd rfl rfl (by decide) rfl rfl (pa_cons (pe_op op_shl1 pe_int (pe_op op_sub (pe_fld (pv 0) rfl) pe_int)) (pa_cons (pe_op op_shl1 pe_int (pe_fld (pv 0) rfl)) pa_nil)) (by rfl))
      (pss_one (ps_ret (pe_lst (pa_cons (pe_tup (pa_cons pe_int (pa_cons (pe_op op_sub (pv 1) pe_int) pa_nil))) (pa_cons (pe_tup (pa_cons (pe_op op_add (pv 1) (pe_fld (pv 0) rfl)) (pa_cons (pe_op op_add (pe_op op_sub (pv 2) pe_int) (pe_fld (pv 0) rfl)) pa_nil))) pa_nil)))))), ?_⟩
    obtain ⟨o1, o2, o3, o4⟩ := ho
    refine ⟨_, rfl, p, _, dx, _, _, rfl, hp, T.cE, T.E_bits, efs_bits e, _, _, rfl, rfl, e.b - 1, rfl, pred_i o1, by omega, ?_⟩
    refine ⟨_, rfl, p, _, dx, _, _, rfl, hp, T.cE, T.E_bits, efs_bits e, e.b, rfl, rfl, by omega, _, _, rfl, ?_⟩
    refine ⟨_, rfl, _, _, rfl, rfl, by show 2 ≤ sizeLine; decide, fun t1 h1 => ?_⟩
    have hp1 := same_new (o := .tup [V.int 0, V.int (P2 (e.b - 1) - 1)]) h1 _ _ hp
    refine ⟨_, rfl, _, rfl, p, _, dx, _, _, rfl, hp1, T.cE, T.E_shift, efs_shift e, _, _, rfl, rfl, _, rfl, _, _, rfl, rfl, _, rfl, p, _, dx, _, _, rfl, hp1, T.cE, T.E_shift, efs_shift e, _, _, rfl, rfl, by show 2 ≤ sizeLine; decide, fun t2 h2 => ?_⟩
    refine ⟨by show 2 ≤ sizeLine; decide, fun l hl => ?_⟩
    refine h _ _ (same_newer (same_newer (same_new h1) h2) hl) ⟨l, _, rfl, upd_same, .cons ⟨t1, rfl, ?_⟩ (.cons ⟨t2, rfl, ?_⟩ .nil)⟩
    · exact same_newer (same_new h2) hl _ _ upd_same
    · exact same_new hl _ _ upd_same
end
end Fw



/-! The effect of a row. -/
namespace Fw
open PySem PySem.Spec PyProof.Rows L2 Rw
/-! ### data that are compared -/
abbrev pD (r : Int × Int) : PyData := .tuple [.int r.1, .int r.2]
abbrev shD (k : Kd) : PyData := .tuple [.int (k.w : Int), .bool k.s]
theorem flat_lay (ds : List PyData) (h : ∀ d ∈ ds, d.canLay0 = true) : PyData.canLayAll0 ds = true := by
  induction ds with
  | nil => simp [PyData.canLayAll0]
  | cons d ds ih => simp only [PyData.canLayAll0, h d (List.mem_cons_self ..), ih fun x m => h x (List.mem_cons_of_mem _ m), Bool.and_self]
theorem flat_depth (n : Nat) (ds : List PyData) (h : ∀ d ∈ ds, d.depth ≤ n) : PyData.depthAll ds ≤ n := by
  induction ds with
  | nil => simp [PyData.depthAll]
  | cons d ds ih =>
    have h1 := h d (List.mem_cons_self ..)
    have h2 := ih fun x m => h x (List.mem_cons_of_mem _ m)
    simp only [PyData.depthAll]
    omega
theorem shaped_list {ds : List PyData} (h : ∀ d ∈ ds, d.canLay0 = true ∧ d.depth ≤ 60) : SeqAt.shaped (.list ds) = true := by
  have h1 := flat_lay ds fun d m => (h d m).1
  have h2 := flat_depth 60 ds fun d m => (h d m).2
  show (PyData.canLay0 (.list ds) && decide (PyData.depth (.list ds) ≤ 64)) = true
  rw [Bool.and_eq_true]
  exact ⟨by simp only [PyData.canLay0]; exact h1, decide_eq_true (by simp only [PyData.depth]; omega)⟩
theorem flat_int (i : Int) : (PyData.int i).canLay0 = true ∧ (PyData.int i).depth ≤ 60 := by simp [PyData.canLay0, PyData.depth]
theorem flat_pD (r : Int × Int) : (pD r).canLay0 = true ∧ (pD r).depth ≤ 60 := by simp [pD, PyData.canLay0, PyData.canLayAll0, PyData.depth, PyData.depthAll]
theorem shaped_pD (r : Int × Int) : SeqAt.shaped (pD r) = true := by simp [SeqAt.shaped, pD, PyData.canLay0, PyData.canLayAll0, PyData.depth, PyData.depthAll]
theorem shaped_shD (k : Kd) : SeqAt.shaped (shD k) = true := by simp [SeqAt.shaped, shD, PyData.canLay0, PyData.canLayAll0, PyData.depth, PyData.depthAll]
theorem shaped_pDs (l : List (Int × Int)) : SeqAt.shaped (.list (l.map pD)) = true := shaped_list fun d m => by
  obtain ⟨r, _, rfl⟩ := List.mem_map.mp m
  exact flat_pD r
theorem shaped_ints (l : List Int) : SeqAt.shaped (.list (l.map PyData.int)) = true := shaped_list fun d m => by
  obtain ⟨r, _, rfl⟩ := List.mem_map.mp m
  exact flat_int r
theorem flat_ints (l : List Int) : (PyData.list (l.map PyData.int)).canLay0 = true ∧ (PyData.list (l.map PyData.int)).depth ≤ 60 := by
  have h1 := flat_lay (l.map PyData.int) fun d m => by obtain ⟨r, _, rfl⟩ := List.mem_map.mp m; exact (flat_int r).1
  have h2 := flat_depth 1 (l.map PyData.int) fun d m => by obtain ⟨r, _, rfl⟩ := List.mem_map.mp m; simp [PyData.depth]
  refine ⟨by simp only [PyData.canLay0]; exact h1, ?_⟩
  simp only [PyData.depth]
  omega
theorem beqI (i j : Int) : (i == j) = decide (i = j) := by
  by_cases h : i = j
  · rw [decide_eq_true h, h]; simp
  · rw [decide_eq_false h]; simpa using h
theorem eqv_int (i j : Int) : PyData.eqv (.int i) (.int j) = decide (i = j) := by simp only [PyData.eqv]; exact beqI i j
theorem eqv_pD (r q : Int × Int) : PyData.eqv (pD r) (pD q) = decide (r = q) := by
  obtain ⟨a, b⟩ := r
  obtain ⟨c, d⟩ := q
  simp only [pD, PyData.eqv, PyData.eqvAll, beqI, Prod.mk.injEq, Bool.and_true, Bool.decide_and]
theorem eqv_shD (k j : Kd) : PyData.eqv (shD k) (shD j) = decide (k = j) := by
  obtain ⟨w, s⟩ := k
  obtain ⟨v, t⟩ := j
  simp only [shD, PyData.eqv, PyData.eqvAll, beqI, Kd.mk.injEq, Bool.and_true, Bool.decide_and, Int.natCast_inj]
  cases s <;> cases t <;> simp
theorem eqvAll_map {α : Type} [DecidableEq α] (f : α → PyData) (h : ∀ x y, PyData.eqv (f x) (f y) = decide (x = y)) : ∀ l m : List α, PyData.eqvAll (l.map f) (m.map f) = decide (l = m)
  | [], [] => by simp [PyData.eqvAll]
  | [], _ :: _ => by simp [PyData.eqvAll]
  | _ :: _, [] => by simp [PyData.eqvAll]
  | x :: l, y :: m => by
    simp only [List.map_cons, PyData.eqvAll, h, eqvAll_map f h l m, List.cons.injEq, Bool.decide_and]
theorem eqv_list {α : Type} [DecidableEq α] (f : α → PyData) (h : ∀ x y, PyData.eqv (f x) (f y) = decide (x = y)) (l m : List α) : PyData.eqv (.list (l.map f)) (.list (m.map f)) = decide (l = m) := by
  simp only [PyData.eqv]
  exact eqvAll_map f h l m
theorem iteK {b : Bool} {p q : Prop} (h : b = true) (x : p) : if b = true then p else q := by rw [if_pos h]; exact x
theorem iteN {b : Bool} {p q : Prop} (h : ¬ b = true) (x : q) : if b = true then p else q := by rw [if_neg h]; exact x
theorem atI_z {v : V} {vs : List V} : atI (v :: vs) 0 = some v := by
  unfold atI
  simp [ixN]
section
variable {K : PySem.W.Frag}
theorem dp_rg {H : Hp} {v : V} {r : Int × Int} (h : RgAt H v r) : Dp K H v (pD r) := by
  obtain ⟨p, rfl, hp⟩ := h
  exact .tup (SqT.of hp) (.cons (.int _) (.cons (.int _) .nil))
theorem dp_sh {H : Hp} {v : V} {k : Kd} (h : ShAt H v k) : Dp K H v (shD k) := by
  obtain ⟨p, rfl, hp⟩ := h
  exact .tup (SqT.of hp) (.cons (.int _) (.cons (.bl _) .nil))
theorem dp_all {α : Type} {R : Hp → V → α → Prop} {f : α → PyData} {H : Hp} (h : ∀ v x, R H v x → Dp K H v (f x)) : ∀ {vs : List V} {xs : List α}, Paired (R H) vs xs → DpAll K H vs (xs.map f)
  | _, _, .nil => .nil
  | _, _, .cons r rr => .cons (h _ _ r) (dp_all h rr)
theorem dp_ls {α : Type} {R : Hp → V → α → Prop} {f : α → PyData} {H : Hp} (h : ∀ v x, R H v x → Dp K H v (f x)) {v : V} {xs : List α} (hl : LsAt R H v xs) : Dp K H v (.list (xs.map f)) := by
  obtain ⟨a, vs, rfl, ha, hp⟩ := hl
  exact .lst (SqL.of ha) (dp_all h hp)
theorem dp_ints {H : Hp} {v : V} {xs : List Int} (hl : LsAt IsI H v xs) : Dp K H v (.list (xs.map PyData.int)) := dp_ls (fun _ _ e => by cases e; exact .int _) hl
theorem dp_rgs {H : Hp} {v : V} {xs : List (Int × Int)} (hl : LsAt RgAt H v xs) : Dp K H v (.list (xs.map pD)) := dp_ls (fun _ _ e => dp_rg e) hl
theorem dp_nil {H : Hp} {p : Addr} (h : H p = some (.lst [])) : Dp K H (.ref p) (.list ([] : List PyData)) := .lst (SqL.of h) .nil
end
def optV : Option Int → V
  | some r => .int r
  | none => .non
section
variable {P : Program} {w : World} {K : PySem.W.Frag} {mg : Str → Option Value} {base : Heap}
def spRest (K : PySem.W.Frag) : Sp := fun vs H Q _ => ∃ (v : V) (e : Ef) (y : Int), vs = [v, .int y] ∧ EfAt K H v e ∧ e.Ok ∧ ∀ H', Same H H' → Q (optV (e.rest y)) H'
abbrev N_Effect_rest_of : List Str := ["self", "y", "side", "first", "last"]
theorem sc_Effect_rest_of : FnScope N_Effect_rest_of ["self", "y"] (defScope s_Effect_rest_of) := ⟨rfl, rfl, rfl, by decide +kernel, rfl, by decide +kernel, by decide +kernel⟩
theorem m_Effect_rest_of (T : Tx K mg) : C8.Met P w K mg base 2 (CE K) "rest_of" (spRest K) [] := by
  have m_Effect_image : C8.Met P w K mg base 1 (CE K) "image" (spEf K fun H Q e => ∀ v H', Same H H' → RsAt H' v e.image → Q v H') [] := m_Effect_image T
  refine T.met 20 77 86 rfl rfl rfl sc_Effect_rest_of ?_ (fun _ _ _ _ _ _ us hl => match us, hl with | [_, _], _ => rfl) ?_
  · rintro vs H Q E ⟨v, e, y, rfl, _⟩; rfl
  · rintro cdv A outer s H vs Q E hr ⟨v, e, y, rfl, ⟨p, dx, rfl, hp⟩, ho, h⟩
    refine ⟨_, (pss_cons (ps_for PassesOwn.never rfl (pi_enum (by rfl) T.n_enumerate (pa_cons (C8.pe_mt0 m_Effect_image hr (by decide) (pv 0)) pa_nil)) (pg_tup rfl (pgs_cons (pg_name (i := 2) sc_Effect_rest_of.nd rfl (Or.inl rfl)) (pgs_cons (pg_tup rfl (pgs_cons (pg_name (i := 3) sc_Effect_rest_of.nd rfl (Or.inl rfl)) (pgs_cons (pg_name (i := 4) sc_Effect_rest_of.nd rfl (Or.inl rfl)) pgs_nil))) pgs_nil)))
        (pss_one (ps_if (pt_chain op_le op_le (pv 3) (pv 1) (pv 4)) (pss_one (ps_ret (pe_op op_sub (pv 1) (pe_op op_mul (pv 2) (pe_fld (pv 0) rfl))))) pss_nil)))
      (pss_one (ps_ret pe_non))), ?_⟩
    refine ⟨_, rfl, p, dx, _, rfl, hp, rfl, _, e, rfl, ⟨p, dx, rfl, hp⟩, ho, fun v H1 s1 hv => ?_⟩
    obtain ⟨a, us, rfl, ha, hr⟩ := hv
    cases hr with
    | cons r1 hr' =>
    cases hr' with
    | cons r2 hr'' =>
    cases hr''
    obtain ⟨t1, rfl, ht1⟩ := r1
    obtain ⟨t2, rfl, ht2⟩ := r2
    refine ⟨a, _, rfl, SqL.of ha, for_it (walk_enum (xs := [V.ref t1, V.ref t2])) (fun i σ H2 => Same H1 H2 ∧ (1 ≤ i → ¬ inR e.r1 y) ∧ (2 ≤ i → ¬ inR e.r2 y) ∧ ∃ o1 o2 o3, σ = [some (.ref p), some (.int y), o1, o2, o3]) ⟨Same.refl _, by omega, by omega, none, none, none, rfl⟩ (fun i σ H2 _ z => SqL.of (z.1 _ _ ha)) ?_ ?_⟩
    · rintro i x σ H2 H3 hi ⟨s2, n1, n2, o1, o2, o3, rfl⟩ ⟨t, x0, x1, rfl, hn, rfl, e0, e1⟩
      have s3 := same_newer (o := .tup [x0, x1]) s2 hn
      cases e0
      match i, e1, n1, n2 with
      | 0, e1, n1, n2 =>
        cases e1
        refine ⟨t, _, rfl, SqT.of upd_same, rfl, _, _, rfl, _, _, rfl, ⟨t1, _, rfl, SqT.of (s3 _ _ ht1), rfl, _, _, rfl, _, _, rfl, rfl, ?_⟩⟩
        refine ⟨rfl, ?_⟩
        refine ⟨_, rfl, _, rfl, _, _, rfl, rfl, _, rfl, ?_⟩
        by_cases c1 : e.r1.1 ≤ y
        · rw [decide_eq_true c1]
          refine iteT ⟨_, rfl, _, _, rfl, rfl, _, rfl, ?_⟩
          by_cases c2 : y ≤ e.r1.2
          · rw [decide_eq_true c2]
            refine iteT ⟨_, rfl, _, rfl, _, rfl, p, _, dx, _, _, rfl, s3 _ _ (s1 _ _ hp), T.cE, T.E_shift, efs_shift e, ?_⟩
            refine ⟨_, _, rfl, rfl, .inl (by decide), _, _, rfl, rfl, ?_⟩
            have e3 : e.rest y = some y := by unfold Ef.rest; rw [if_pos ⟨c1, c2⟩]
            rw [e3] at h
            have e4 : y - ((0 : Nat) : Int) * e.sh = y := by simp
            show Q (V.int (y - ((0 : Nat) : Int) * e.sh)) _
            rw [e4]
            exact h _ (s1.trans s3)
          · rw [decide_eq_false c2]
            exact iteF ⟨s3, fun _ z => c2 z.2, fun z => absurd z (by omega), _, _, _, rfl⟩
        · rw [decide_eq_false c1]
          exact iteF ⟨false, rfl, iteF ⟨s3, fun _ z => c1 z.1, fun z => absurd z (by omega), _, _, _, rfl⟩⟩
      | 1, e1, n1, n2 =>
        cases e1
        refine ⟨t, _, rfl, SqT.of upd_same, rfl, _, _, rfl, _, _, rfl, ⟨t2, _, rfl, SqT.of (s3 _ _ ht2), rfl, _, _, rfl, _, _, rfl, rfl, ?_⟩⟩
        refine ⟨rfl, ?_⟩
        refine ⟨_, rfl, _, rfl, _, _, rfl, rfl, _, rfl, ?_⟩
        by_cases c1 : e.r2.1 ≤ y
        · rw [decide_eq_true c1]
          refine iteT ⟨_, rfl, _, _, rfl, rfl, _, rfl, ?_⟩
          by_cases c2 : y ≤ e.r2.2
          · rw [decide_eq_true c2]
            refine iteT ⟨_, rfl, _, rfl, _, rfl, p, _, dx, _, _, rfl, s3 _ _ (s1 _ _ hp), T.cE, T.E_shift, efs_shift e, ?_⟩
            refine ⟨_, _, rfl, rfl, .inl (by decide), _, _, rfl, rfl, ?_⟩
            have e3 : e.rest y = some (y - e.sh) := by unfold Ef.rest; rw [if_neg (n1 (Nat.le_refl _)), if_pos ⟨c1, c2⟩]
            rw [e3] at h
            have e4 : y - ((1 : Nat) : Int) * e.sh = y - e.sh := by simp
            show Q (V.int (y - ((1 : Nat) : Int) * e.sh)) _
            rw [e4]
            exact h _ (s1.trans s3)
          · rw [decide_eq_false c2]
            exact iteF ⟨s3, fun _ => n1 (Nat.le_refl _), fun _ z => c2 z.2, _, _, _, rfl⟩
        · rw [decide_eq_false c1]
          exact iteF ⟨false, rfl, iteF ⟨s3, fun _ => n1 (Nat.le_refl _), fun _ z => c1 z.1, _, _, _, rfl⟩⟩
    · rintro σ H2 ⟨s2, n1, n2, o1, o2, o3, rfl⟩
      have e3 : e.rest y = none := by unfold Ef.rest; rw [if_neg (n1 (Nat.le_succ 1)), if_neg (n2 (Nat.le_refl 2))]
      rw [e3] at h
      exact h _ (s1.trans s2)
def spEfOf (K : PySem.W.Frag) : Sp := fun vs H Q _ => ∃ (v : V) (ks : List Kd), vs = [v] ∧ KsAt K H v ks ∧ ks ≠ [] ∧ (∀ k ∈ ks, k.Ok) ∧ ks.length ≤ 1000 ∧ ∀ u H', Same H H' → EfAt K H' u (effOf ks) → Q u H'
abbrev N_effect_of : List Str := ["kinds", "bits", "width", "total", "is_signed", "kind"]
theorem sc_effect_of : FnScope N_effect_of ["kinds"] (defScope s_effect_of) := ⟨rfl, rfl, rfl, by decide +kernel, rfl, by decide +kernel, by decide +kernel⟩
theorem c_effect_of (T : Tx K mg) : C8.Cal P w K mg base 3 "effect_of" (spEfOf K) [] := by
  have k_Effect : C8.Mak P w K mg base 1 "Effect" (CE K) (spEfInit K) [] := k_Effect T
  refine T.cal 21 16 rfl rfl sc_effect_of ?_ (fun _ _ _ _ _ _ us hl => match us, hl with | [_], _ => rfl) ?_
  · rintro vs H Q E ⟨v, ks, rfl, _⟩; rfl
  · rintro cdv A outer s H vs Q E hr ⟨v, ks, rfl, ⟨a, us, rfl, ha, hp⟩, hne, hok, h1000, h⟩
    cases ks with
    | nil => exact absurd rfl hne
    | cons k0 ks =>
    cases hp with
    | cons hk0 hks =>
    rename_i v0 us'
    obtain ⟨p0, dx0, rfl, hp0⟩ := hk0
    have ok0 := hok k0 (List.mem_cons_self ..)
    refine ⟨_, (pss_cons (ps_asg3 (pe_fld (pe_ix ix_list (pv 0) pe_int (fun _ _ => rfl)) rfl) (pg_name (i := 1) sc_effect_of.nd rfl (Or.inl rfl)) (pg_name (i := 2) sc_effect_of.nd rfl (Or.inl rfl)) (pg_name (i := 3) sc_effect_of.nd rfl (Or.inl rfl)))
      (pss_cons (ps_set (i := 4) sc_effect_of.nd rfl (Or.inl rfl) (pe_fld (pe_ix ix_list (pv 0) pe_int (fun _ _ => rfl)) rfl))
      (pss_cons (ps_for PassesOwn.never rfl (pi_list (pe_slice sl_list (pv 0) (po_some pe_int) po_none)) (pg_name (i := 5) sc_effect_of.nd rfl (Or.inl rfl))
        (pss_cons (ps_if (pt_cmpR op_le (pe_fld (pv 5) rfl) (pv 1) (nomark _)) (pss_one (ps_asg2 (pe_fld (pv 5) rfl) (pg_name (i := 1) sc_effect_of.nd rfl (Or.inl rfl)) (pg_name (i := 2) sc_effect_of.nd rfl (Or.inl rfl)))) (pss_one (ps_if (pt_cmpR op_le (pe_fld (pv 5) rfl) (pv 3) (nomark _)) (pss_one (ps_set (i := 2) sc_effect_of.nd rfl (Or.inl rfl) (pe_callB (call_min2 rfl) (by rfl) T.n_min boot_min_ (pa_cons (pv 2) (pa_cons (pe_fld (pv 5) rfl) pa_nil))))) (pss_one (ps_if (PW.pt (pw_and (pt_val (pv 4)) (pw_and1 (pt_cmpR op_eqi (pv 2) (pv 3) (nomark _))))) (pss_one (ps_set (i := 2) sc_effect_of.nd rfl (Or.inl rfl) (pe_fld (pv 5) rfl))) pss_nil)))))
          (pss_one (ps_par (i := 3) (j := 4) rfl sc_effect_of.nd rfl rfl (by decide) rfl rfl (pa_cons (pe_fld (pv 5) rfl) (pa_cons (pe_fld (pv 5) rfl) pa_nil)) (by rfl)))))
      (pss_one (ps_ret (C8.pe_mk k_Effect hr (by decide) rfl (pa_cons (pv 1) (pa_cons (pv 2) (pa_cons (pe_and (pv 4) (pe_one (pe_cmpR op_eqi (pv 2) (pv 3) (nomark _)))) pa_nil))))))))), ?_⟩
    refine ⟨_, rfl, a, _, 0, _, rfl, rfl, SqL.of ha, atI_z, p0, _, dx0, _, _, rfl, hp0, T.cK, T.K_bits, kfs_bits k0, ?_⟩
    refine ⟨_, rfl, a, _, 0, _, rfl, rfl, SqL.of ha, atI_z, p0, _, dx0, _, _, rfl, hp0, T.cK, T.K_is_signed, kfs_sg k0, ?_⟩
    refine ⟨_, rfl, 1, rfl, a, _, rfl, SqL.of ha, fun l hl => ?_⟩
    rw [cut1 _ (by simp)]
    have s1 := same_new (o := .lst us') hl
    have hlen := PySem.Paired.length hks
    refine ⟨l, rfl, ⟨_, SqL.of upd_same⟩, for_list (K := K) (a := l) (xs := us') (fun i σ H2 => H2 = upd H l (.lst us') ∧ ∃ o t, t = (ks.take i).foldl Es.step (Es.init k0) ∧ t.Ok ∧ σ = [some (.ref a), some (.int (t.b : Nat)), some (.int (t.wd : Nat)), some (.int (t.tt : Nat)), some (.bl t.sg), o]) ⟨rfl, none, _, rfl, Es.Ok.init ok0, rfl⟩ (fun i σ H2 _ z => by rw [z.1]; exact SqL.of upd_same) ?_ ?_⟩
    · rintro i x σ H2 hi ⟨rfl, o, t, ht, hto, rfl⟩
      obtain ⟨k, hk, pk, dxk, rfl, hpk⟩ := Paired.get hks hi
      have okk := hok k (List.mem_cons_of_mem _ (List.mem_of_getElem? hk))
      have e1 : (ks.take (i + 1)).foldl Es.step (Es.init k0) = t.step k := by rw [List.take_add_one, hk, List.foldl_append, ← ht]; rfl
      have hpk' := s1 _ _ hpk
      refine ⟨_, rfl, pk, _, dxk, _, _, rfl, hpk', T.cK, T.K_bits, kfs_bits k, _, rfl, _, _, rfl, rfl, _, rfl, ?_⟩
      have ok' := hto.step okk
      by_cases c1 : k.w ≤ t.b
      · have e2 : t.step k = ⟨k.w, k.w, k.w, k.s⟩ := by unfold Es.step; rw [if_pos c1]
        rw [decide_eq_true (by omega : (k.w : Int) ≤ (t.b : Int))]
        refine iteT ⟨_, rfl, pk, _, dxk, _, _, rfl, hpk', T.cK, T.K_bits, kfs_bits k, ?_⟩
        refine ⟨_, rfl, pk, _, dxk, _, _, rfl, hpk', T.cK, T.K_bits, kfs_bits k, _, rfl, pk, _, dxk, _, _, rfl, hpk', T.cK, T.K_is_signed, kfs_sg k, _, _, rfl, ?_⟩
        exact ⟨rfl, _, _, e1.symm, ok', by rw [e2]; rfl⟩
      · rw [decide_eq_false (by omega : ¬ (k.w : Int) ≤ (t.b : Int))]
        refine iteF ⟨_, rfl, pk, _, dxk, _, _, rfl, hpk', T.cK, T.K_bits, kfs_bits k, _, rfl, _, _, rfl, rfl, _, rfl, ?_⟩
        by_cases c2 : k.w ≤ t.tt
        · have e2 : t.step k = ⟨t.b, min t.wd k.w, k.w, k.s⟩ := by unfold Es.step; rw [if_neg c1, if_pos c2]
          rw [decide_eq_true (by omega : (k.w : Int) ≤ (t.tt : Int))]
          refine iteT ⟨_, rfl, _, rfl, pk, _, dxk, _, _, rfl, hpk', T.cK, T.K_bits, kfs_bits k, _, _, rfl, ?_⟩
          refine ⟨_, rfl, pk, _, dxk, _, _, rfl, hpk', T.cK, T.K_bits, kfs_bits k, _, rfl, pk, _, dxk, _, _, rfl, hpk', T.cK, T.K_is_signed, kfs_sg k, _, _, rfl, ?_⟩
          have e3 : (if (k.w : Int) < (t.wd : Int) then (k.w : Int) else (t.wd : Int)) = ((min t.wd k.w : Nat) : Int) := by split <;> omega
          refine ⟨rfl, some (.ref pk), _, e1.symm, ok', ?_⟩
          rw [e2]
          simp only [← e3]
          rfl
        · rw [decide_eq_false (by omega : ¬ (k.w : Int) ≤ (t.tt : Int))]
          refine iteF ⟨_, rfl, t.sg, rfl, ?_⟩
          by_cases c3 : t.sg = true
          · refine iteK c3 ⟨_, rfl, _, rfl, _, _, rfl, rfl, _, rfl, ?_⟩
            by_cases c4 : t.wd = t.tt
            · have e2 : t.step k = ⟨t.b, k.w, k.w, k.s⟩ := by unfold Es.step; rw [if_neg c1, if_neg c2, if_pos ⟨c3, c4⟩]
              rw [decide_eq_true (by omega : (t.wd : Int) = (t.tt : Int))]
              refine iteT ⟨_, rfl, pk, _, dxk, _, _, rfl, hpk', T.cK, T.K_bits, kfs_bits k, ?_⟩
              refine ⟨_, rfl, pk, _, dxk, _, _, rfl, hpk', T.cK, T.K_bits, kfs_bits k, _, rfl, pk, _, dxk, _, _, rfl, hpk', T.cK, T.K_is_signed, kfs_sg k, _, _, rfl, ?_⟩
              exact ⟨rfl, _, _, e1.symm, ok', by rw [e2]; rfl⟩
            · have e2 : t.step k = ⟨t.b, t.wd, k.w, k.s⟩ := by unfold Es.step; rw [if_neg c1, if_neg c2, if_neg (fun z => c4 z.2)]
              rw [decide_eq_false (by omega : ¬ (t.wd : Int) = (t.tt : Int))]
              refine iteF ⟨_, rfl, pk, _, dxk, _, _, rfl, hpk', T.cK, T.K_bits, kfs_bits k, _, rfl, pk, _, dxk, _, _, rfl, hpk', T.cK, T.K_is_signed, kfs_sg k, _, _, rfl, ?_⟩
              exact ⟨rfl, _, _, e1.symm, ok', by rw [e2]; rfl⟩
          · have e2 : t.step k = ⟨t.b, t.wd, k.w, k.s⟩ := by unfold Es.step; rw [if_neg c1, if_neg c2, if_neg (fun z => c3 z.1)]
            refine iteN c3 (iteF ⟨_, rfl, pk, _, dxk, _, _, rfl, hpk', T.cK, T.K_bits, kfs_bits k, _, rfl, pk, _, dxk, _, _, rfl, hpk', T.cK, T.K_is_signed, kfs_sg k, _, _, rfl, ?_⟩)
            exact ⟨rfl, _, _, e1.symm, ok', by rw [e2]; rfl⟩
    · rintro σ H2 ⟨rfl, o, t, ht, hto, rfl⟩
      rw [hlen, List.take_length] at ht
      have he : effOf (k0 :: ks) = t.fin := by rw [ht]; rfl
      rw [he] at h
      refine ⟨_, rfl, _, rfl, ?_⟩
      obtain ⟨h1, h2, h3, h4⟩ := hto
      have fin : ∀ {bl : Bool}, bl = (t.sg && decide (t.wd = t.tt)) → ∀ x dx, (upd H l (HO.lst us')) x = none → (upd H l (HO.lst us')) dx = none → dx ≠ x →
          spEfInit K [.ref x, .int (t.b : Int), .int (t.wd : Int), .bl bl] (upd (upd (upd H l (HO.lst us')) dx (.own x)) x (.ins (CE K) dx [])) (fun v H2 => v = .non ∧ Q (.ref x) H2) E0 := by
        intro bl hb x dx hx hd hne
        refine make_effect hx hd hne (by omega) (by omega) fun H' s' hk => ?_
        refine h _ _ (s1.trans s') ?_
        rw [hb] at hk
        exact hk
      refine ⟨_, rfl, t.sg, rfl, ?_⟩
      by_cases c3 : t.sg = true
      · refine iteK c3 ⟨_, rfl, _, rfl, _, _, rfl, rfl, fin ?_⟩
        rw [c3, Bool.true_and]
        by_cases c4 : t.wd = t.tt
        · rw [decide_eq_true c4, decide_eq_true (by omega)]
        · rw [decide_eq_false c4, decide_eq_false (by omega)]
      · refine iteN c3 (fin ?_)
        rw [Bool.eq_false_iff.mpr c3, Bool.false_and]
end
end Fw



/-! Rows; ranges put together. -/
namespace Fw
open PySem PySem.Spec PyProof.Rows L2 Rw
theorem Paired.snoc {α β : Type} {F : α → β → Prop} {us : List α} {bs : List β} {b : β} (h : Paired F us (bs ++ [b])) : ∃ vs v, us = vs ++ [v] ∧ Paired F vs bs ∧ F v b := by
  have r := Paired.rev h
  rw [List.reverse_append] at r
  generalize e : us.reverse = ru at r
  cases r with
  | cons h1 r1 =>
    rename_i v vs
    refine ⟨vs.reverse, v, ?_, ?_, h1⟩
    · have := congrArg List.reverse e
      rw [List.reverse_reverse, List.reverse_cons] at this
      exact this
    · have := Paired.rev r1
      simpa using this
theorem ixN_last (n : Nat) : ixN (n + 1) (-1) = some n := by
  unfold ixN
  rw [if_neg (by omega), if_pos (by omega)]
  exact congrArg some (by omega)
theorem atI_last (vs : List V) (v : V) : atI (vs ++ [v]) (-1) = some v := by
  unfold atI
  rw [List.length_append, List.length_singleton, ixN_last]
  simp
theorem set_last (vs : List V) (v x : V) : (vs ++ [v]).set vs.length x = vs ++ [x] := by simp
theorem joinStep_at (bs : List (Int × Int)) (b z : Int × Int) : joinStep (bs ++ [b]) z = if z.1 ≤ z.2 ∧ b.2 + 1 = z.1 then bs ++ [(b.1, z.2)] else if z.1 ≤ z.2 then bs ++ [b] ++ [z] else bs ++ [b] := by
  unfold joinStep
  simp
theorem joinStep_nil (z : Int × Int) : joinStep [] z = if z.1 ≤ z.2 then [z] else [] := by
  unfold joinStep
  simp
theorem joinStep_len (acc : List (Int × Int)) (z : Int × Int) : (joinStep acc z).length ≤ acc.length + 1 := by
  unfold joinStep
  split
  · simp
  · split <;> simp
theorem joinR_len : ∀ zs : List (Int × Int), (joinR zs).length ≤ zs.length := by
  intro zs
  have h : ∀ (zs acc : List (Int × Int)), (zs.foldl joinStep acc).length ≤ acc.length + zs.length := by
    intro zs
    induction zs with
    | nil => intro acc; simp
    | cons z zs ih =>
      intro acc
      have h1 := ih (joinStep acc z)
      have h2 := joinStep_len acc z
      rw [List.foldl_cons, List.length_cons]
      omega
  have := h zs []
  unfold joinR
  simpa using this
/-- the two ints of a tuple -/
def rgOf (H : Hp) (v : V) : Int × Int := match v with
  | .ref t => match H t with
    | some (.tup [.int i, .int j]) => (i, j)
    | _ => (0, 0)
  | _ => (0, 0)
theorem rgOf_at {H : Hp} {v : V} {r : Int × Int} (h : RgAt H v r) : rgOf H v = r := by
  obtain ⟨p, rfl, hp⟩ := h
  unfold rgOf
  simp only [hp]
theorem rgOf_all {H : Hp} : ∀ {us : List V} {zs : List (Int × Int)}, Paired (RgAt H) us zs → us.map (rgOf H) = zs
  | _, _, .nil => rfl
  | _, _, .cons h r => by rw [List.map_cons, rgOf_at h, rgOf_all r]
theorem paired_map {α β : Type} {F : α → β → Prop} {f : α → β} : ∀ {us : List α}, (∀ u ∈ us, F u (f u)) → Paired F us (us.map f)
  | [], _ => .nil
  | u :: us, h => .cons (h u (List.mem_cons_self ..)) (paired_map fun x m => h x (List.mem_cons_of_mem _ m))
theorem paired_mem {α β : Type} {F : α → β → Prop} : ∀ {us : List α} {zs : List β}, Paired F us zs → ∀ u ∈ us, ∃ z ∈ zs, F u z
  | _, _, .nil, _, m => by cases m
  | _, _, .cons h r, u, m => by
    cases m with
    | head => exact ⟨_, List.mem_cons_self .., h⟩
    | tail _ m => obtain ⟨z, hz, f⟩ := paired_mem r u m; exact ⟨z, List.mem_cons_of_mem _ hz, f⟩
/-- a list sorted by sorted(..) -/
theorem sorted_rgs {H : Hp} {us ys : List V} {ps : List (Int × Int)} (hp : Paired (RgAt H) us ps) (hs : SrtO.Srtd (ltP (rgOf H)) ys) (ht : SrtO.Stb (ltP (rgOf H)) ys us) : ∃ zs, Paired (RgAt H) ys zs ∧ zs.Perm ps ∧ zs.Pairwise lexLe := by
  refine ⟨ys.map (rgOf H), paired_map fun u m => ?_, ?_, ?_⟩
  · obtain ⟨z, _, hz⟩ := paired_mem hp u (ht.perm.mem_iff.mp m)
    rw [rgOf_at hz]
    exact hz
  · rw [← rgOf_all hp]
    exact ht.perm.map _
  · rw [List.pairwise_map]
    refine List.Pairwise.imp (fun {x y} h => ?_) hs
    have := SrtO.lexB_no.mp h
    unfold lexLe
    omega
section
variable {P : Program} {w : World} {K : PySem.W.Frag} {mg : Str → Option Value} {base : Heap}
def spRow (K : PySem.W.Frag) : Sp := fun vs H Q _ => ∃ (x v : V) (ks : List Kd), vs = [x, v] ∧ KsAt K H v ks ∧ RowOk ks ∧ ∀ H', Same H H' → Q .non H'
abbrev N_check_row : List Str := ["argument", "value", "kind"]
theorem sc_check_row : FnScope N_check_row ["argument", "value"] (defScope s_check_row) := ⟨rfl, rfl, rfl, by decide +kernel, rfl, by decide +kernel, by decide +kernel⟩
theorem c_check_row (T : Tx K mg) : C8.Cal P w K mg base 1 "check_row" (spRow K) [] := by
  refine T.cal 22 17 rfl rfl sc_check_row ?_ (fun _ _ _ _ _ _ us hl => match us, hl with | [_, _], _ => rfl) ?_
  · rintro vs H Q E ⟨x, v, ks, rfl, _⟩; rfl
  · rintro cdv A outer s H vs Q E hr ⟨x, v, ks, rfl, ⟨a, us, rfl, ha, hp⟩, ⟨h1, h20, hks⟩, h⟩
    refine ⟨_, (pss_cons (ps_if (PW.pt (pw_or (pt_not (pt_val (pe_callB call_isi (by rfl) T.n_isinstance boot_isinst (pa_cons (pv 1) (pa_cons (pe_bltn (v := .ty "list") rfl T.n_list boot_list_ rfl) pa_nil))))) (pw_or1 (pt_not (pt_chain op_le op_le pe_int (pe_callB call_len_seq (by rfl) T.n_len boot_len_ (pa_cons (pv 1) pa_nil)) (C8.pe_gc rfl T.MOST_KINDS)))))) (pss_one ps_never) pss_nil)
      (pss_one (ps_if (pt_not (pt_val (pe_callB (cr_all rfl) (by rfl) T.n_all boot_all_ (pa_cons (pe_lc (own := [("kind", 2)]) (g := gName 2) (tt := tYes) (te := (tIsK K 2)) rfl sc_check_row.nd (pi_list (pv 1)) (blkOk_by (own := [("kind", 2)]) (N := N_check_row) (sc := (defScope s_check_row)) (by decide +kernel)) (fun _ _ _ _ _ => (pg_name (i := 2) sc_check_row.nd rfl (Or.inl rfl))) (fun _ _ _ _ _ => pts_nil) (fun _ _ _ _ _ => (pe_callB (C8.call_isC T.ins) (by rfl) T.n_isinstance boot_isinst (pa_cons (pv 2) (pa_cons (pe_glob (v := .ref (He.ga K "Kind")) rfl T.g_Kind rfl) pa_nil))))) pa_nil)))) (pss_one ps_never) pss_nil))), ?_⟩
    have hlen := PySem.Paired.length hp
    refine ⟨_, rfl, _, _, _, _, true, rfl, .ty "list", .base (.lst ha), kit_ll, true, rfl, iteF ?_⟩
    refine ⟨_, rfl, a, us, rfl, .inl (SqL.of ha), _, _, rfl, rfl, decide ((1 : Int) ≤ (us.length : Int)), rfl, ?_⟩
    rw [decide_eq_true (by omega : (1 : Int) ≤ (us.length : Int))]
    refine iteT ⟨_, _, rfl, rfl, _, rfl, ?_⟩
    rw [decide_eq_true (by omega : (us.length : Int) ≤ 20)]
    refine iteF ?_
    refine ⟨_, rfl, a, rfl, ⟨_, SqL.of ha⟩, fun D hD => lc_new (K := K) sta_v (List.replicate us.length (V.bl true)) (by simp) (by simp; omega) hD (SqL.of ha) (fun i x H' hi s' Q' k => ?_) (fun bs H' s' hd hb => ?_)⟩
    · obtain ⟨k0, hk0, p, dx, rfl, hpk⟩ := Paired.get hp hi
      refine ⟨rfl, _, rfl, p, dx, _, rfl, s' _ _ hpk, k _ (.bl true) H' ?_ (Same.refl _) rfl⟩
      rw [List.getElem?_replicate, if_pos (List.getElem?_eq_some_iff.mp hi).1]
    refine ⟨D, List.replicate us.length true, rfl, SqL.of (by rw [hd, all_true hb]), true, ?_, iteF ?_⟩
    · rw [all_id]
    exact h _ s'
theorem ks_mono {H H' : Hp} {v : V} {ks : List Kd} (s : Same H H') (h : KsAt K H v ks) : KsAt K H' v ks := LsAt.mono KiAt.mono _ _ _ _ s h
theorem ki_mono {H H' : Hp} {v : V} {k : Kd} (s : Same H H') (h : KiAt K H v k) : KiAt K H' v k := KiAt.mono _ _ _ _ s h
theorem ef_mono {H H' : Hp} {v : V} {k : Ef} (s : Same H H') (h : EfAt K H v k) : EfAt K H' v k := EfAt.mono _ _ _ _ s h
theorem rs_mono {H H' : Hp} {v : V} {l : List (Int × Int)} (s : Same H H') (h : RsAt H v l) : RsAt H' v l := LsAt.mono RgAt.mono _ _ _ _ s h
def spEfFor (K : PySem.W.Frag) : Sp := fun vs H Q _ => ∃ (v u : V) (k : Kd) (ks : List Kd), vs = [v, u] ∧ KiAt K H v k ∧ k.Ok ∧ KsAt K H u ks ∧ RowOk ks ∧ ∀ x H', Same H H' → EfAt K H' x (effOf (k :: ks)) → Q x H'
theorem row_all {k : Kd} {ks : List Kd} (hk : k.Ok) (hr : RowOk ks) : ∀ j ∈ k :: ks, j.Ok := by
  intro j m
  cases m with
  | head => exact hk
  | tail _ m => exact hr.2.2 j m
abbrev N_effect_for : List Str := ["kind", "kinds"]
theorem sc_effect_for : FnScope N_effect_for ["kind", "kinds"] (defScope s_effect_for) := ⟨rfl, rfl, rfl, by decide +kernel, rfl, by decide +kernel, by decide +kernel⟩
theorem c_effect_for (T : Tx K mg) : C8.Cal P w K mg base 4 "effect_for" (spEfFor K) [] := by
  have c_check_kind : C8.Cal P w K mg base 1 "check_kind" (spKi K fun _ => .non) [] := c_check_kind T
  have c_check_row : C8.Cal P w K mg base 1 "check_row" (spRow K) [] := c_check_row T
  have c_effect_of : C8.Cal P w K mg base 3 "effect_of" (spEfOf K) [] := c_effect_of T
  refine T.cal 23 18 rfl rfl sc_effect_for ?_ (fun _ _ _ _ _ _ us hl => match us, hl with | [_, _], _ => rfl) ?_
  · rintro vs H Q E ⟨v, u, k, ks, rfl, _⟩; rfl
  · rintro cdv A outer s H vs Q E hr ⟨v, u, k, ks, rfl, hv, hk, hu, hro, h⟩
    refine ⟨_, (pss_cons (ps_expr (C8.pe_c c_check_kind hr (by decide) rfl (pa_cons (pv 0) pa_nil)))
      (pss_cons (ps_expr (C8.pe_c c_check_row hr (by decide) rfl (pa_cons pe_str (pa_cons (pv 1) pa_nil))))
      (pss_one (ps_ret (C8.pe_c c_effect_of hr (by decide) rfl (pa_cons (pe_op op_cat (pe_lst (pa_cons (pv 0) pa_nil)) (pv 1)) pa_nil)))))), ?_⟩
    refine ⟨_, rfl, v, k, rfl, hv, hk, ?_⟩
    refine ⟨_, rfl, _, u, ks, rfl, hu, hro, fun H1 s1 => ?_⟩
    have hu1 := ks_mono s1 hu
    obtain ⟨b, us, rfl, hb, hp⟩ := hu1
    have hlen := PySem.Paired.length hp
    have h20 := hro.2.1
    refine ⟨_, rfl, by show 1 ≤ sizeLine; decide, fun l hl => ⟨_, rfl, l, b, _, _, rfl, rfl, upd_same, (same_new hl) _ _ hb, small' (by simp; omega), fun p hp' => ?_⟩⟩
    have s2 : Same H1 (upd (upd H1 l (.lst [v])) p (.lst ([v] ++ us))) := same_newer (same_new hl) hp'
    refine ⟨_, k :: ks, rfl, ⟨p, _, rfl, upd_same, .cons (ki_mono (s1.trans s2) hv) (sta_ki.same s2 hp)⟩, by simp, row_all hk hro, by simp; omega, fun x H' s' hx => ?_⟩
    exact h _ _ ((s1.trans s2).trans s') hx
def spDo (K : PySem.W.Frag) : Sp := fun vs H Q _ => ∃ (v u : V) (ks js : List Kd), vs = [v, u] ∧ KsAt K H v ks ∧ RowOk ks ∧ KsAt K H u js ∧ RowOk js ∧ ∀ H', Same H H' → Q (.bl (decide ((effOf ks).parts = (effOf js).parts))) H'
theorem row_ne' {ks : List Kd} (h : RowOk ks) : ks ≠ [] := by
  intro z
  have := h.1
  rw [z] at this
  cases this
theorem eff_row {ks : List Kd} (h : RowOk ks) : (effOf ks).Ok := effOf_ok (row_ne' h) h.2.2
theorem parts_dec (e f : Ef) : decide ((((e.b : Nat) : Int), e.sh) = (((f.b : Nat) : Int), f.sh)) = decide (e.parts = f.parts) := by
  rw [decide_eq_decide]
  unfold Ef.parts
  rw [Prod.mk.injEq, Prod.mk.injEq]
  omega
abbrev N_do_same : List Str := ["kinds", "others"]
theorem sc_do_same : FnScope N_do_same ["kinds", "others"] (defScope s_do_same) := ⟨rfl, rfl, rfl, by decide +kernel, rfl, by decide +kernel, by decide +kernel⟩
theorem c_do_same (T : Tx K mg) : C8.Cal P w K mg base 4 "do_same" (spDo K) [] := by
  have c_check_row : C8.Cal P w K mg base 1 "check_row" (spRow K) [] := c_check_row T
  have c_effect_of : C8.Cal P w K mg base 3 "effect_of" (spEfOf K) [] := c_effect_of T
  have m_Effect_parts : C8.Met P w K mg base 1 (CE K) "parts" (spEf K fun H Q e => rNew2 H Q ((e.b : Int), e.sh)) [] := m_Effect_parts T
  refine T.cal 25 20 rfl rfl sc_do_same ?_ (fun _ _ _ _ _ _ us hl => match us, hl with | [_, _], _ => rfl) ?_
  · rintro vs H Q E ⟨v, u, k, ks, rfl, _⟩; rfl
  · rintro cdv A outer s H vs Q E hr ⟨v, u, ks, js, rfl, hv, hk, hu, hj, h⟩
    refine ⟨_, (pss_cons (ps_expr (C8.pe_c c_check_row hr (by decide) rfl (pa_cons pe_str (pa_cons (pv 0) pa_nil))))
      (pss_cons (ps_expr (C8.pe_c c_check_row hr (by decide) rfl (pa_cons pe_str (pa_cons (pv 1) pa_nil))))
      (pss_one (ps_ret (pe_cmpR (op_eqD hr.units) (C8.pe_mt0 m_Effect_parts hr (by decide) (C8.pe_c c_effect_of hr (by decide) rfl (pa_cons (pv 0) pa_nil))) (C8.pe_mt0 m_Effect_parts hr (by decide) (C8.pe_c c_effect_of hr (by decide) rfl (pa_cons (pv 1) pa_nil))) (nomark _)))))), ?_⟩
    refine ⟨_, rfl, _, v, ks, rfl, hv, hk, fun H1 s1 => ?_⟩
    refine ⟨_, rfl, _, u, js, rfl, ks_mono s1 hu, hj, fun H2 s2 => ?_⟩
    have s12 := s1.trans s2
    refine ⟨_, rfl, v, ks, rfl, ks_mono s12 hv, row_ne' hk, hk.2.2, by have := hk.2.1; omega, fun x H3 s3 hx => ?_⟩
    obtain ⟨p, dx, rfl, hp⟩ := hx
    refine ⟨p, dx, _, rfl, hp, rfl, _, _, rfl, ⟨p, dx, rfl, hp⟩, eff_row hk, fun t H4 s4 ht => ?_⟩
    refine ⟨_, rfl, u, js, rfl, ks_mono ((s12.trans s3).trans s4) hu, row_ne' hj, hj.2.2, by have := hj.2.1; omega, fun x H5 s5 hx => ?_⟩
    obtain ⟨p2, dx2, rfl, hp2⟩ := hx
    refine ⟨p2, dx2, _, rfl, hp2, rfl, _, _, rfl, ⟨p2, dx2, rfl, hp2⟩, eff_row hj, fun t2 H6 s6 ht2 => ?_⟩
    refine ⟨_, _, dp_rg (RgAt.mono _ _ _ _ (s5.trans s6) ht), dp_rg ht2, shaped_pD _, shaped_pD _, ?_⟩
    rw [eqv_pD, parts_dec]
    exact h _ (((s12.trans s3).trans s4).trans (s5.trans s6))
def spShort (K : PySem.W.Frag) : Sp := fun vs H Q _ => ∃ (v : V) (ks : List Kd), vs = [v] ∧ KsAt K H v ks ∧ RowOk ks ∧ ∀ u H', Same H H' → KsAt K H' u (effOf ks).row → Q u H'
abbrev N_shortest : List Str := ["kinds"]
theorem sc_shortest : FnScope N_shortest ["kinds"] (defScope s_shortest) := ⟨rfl, rfl, rfl, by decide +kernel, rfl, by decide +kernel, by decide +kernel⟩
theorem c_shortest (T : Tx K mg) : C8.Cal P w K mg base 6 "shortest" (spShort K) [] := by
  have c_check_row : C8.Cal P w K mg base 1 "check_row" (spRow K) [] := c_check_row T
  have c_effect_of : C8.Cal P w K mg base 3 "effect_of" (spEfOf K) [] := c_effect_of T
  have m_Effect_row : C8.Met P w K mg base 5 (CE K) "row" (spEf K fun H Q e => ∀ v H', Same H H' → KsAt K H' v e.row → Q v H') [] := m_Effect_row T
  refine T.cal 26 21 rfl rfl sc_shortest ?_ (fun _ _ _ _ _ _ us hl => match us, hl with | [_], _ => rfl) ?_
  · rintro vs H Q E ⟨v, k, rfl, _⟩; rfl
  · rintro cdv A outer s H vs Q E hr ⟨v, ks, rfl, hv, hk, h⟩
    refine ⟨_, (pss_cons (ps_expr (C8.pe_c c_check_row hr (by decide) rfl (pa_cons pe_str (pa_cons (pv 0) pa_nil))))
      (pss_one (ps_ret (C8.pe_mt0 m_Effect_row hr (by decide) (C8.pe_c c_effect_of hr (by decide) rfl (pa_cons (pv 0) pa_nil)))))), ?_⟩
    refine ⟨_, rfl, _, v, ks, rfl, hv, hk, fun H1 s1 => ?_⟩
    refine ⟨_, rfl, v, ks, rfl, ks_mono s1 hv, row_ne' hk, hk.2.2, by have := hk.2.1; omega, fun x H3 s3 hx => ?_⟩
    obtain ⟨p, dx, rfl, hp⟩ := hx
    refine ⟨p, dx, _, rfl, hp, rfl, _, _, rfl, ⟨p, dx, rfl, hp⟩, eff_row hk, fun t H4 s4 ht => ?_⟩
    exact h _ _ ((s1.trans s3).trans s4) ht
/-- the two kinds are alike -/
def REq (K : PySem.W.Frag) : Addr → Addr → Hp → Prop := fun a b H => ∃ k, KiAt K H (.ref a) k ∧ KiAt K H (.ref b) k
abbrev N_Kind_eq : List Str := ["self", "other"]
theorem sc_Kind_eq : FnScope N_Kind_eq ["self", "other"] (defScope s_Kind_eq) := ⟨rfl, rfl, rfl, by decide +kernel, rfl, by decide +kernel, by decide +kernel⟩
theorem m_Kind_eq (T : Tx K mg) : C8.Met P w K mg base 2 (CK K) "__eq__" (spEq (REq K)) [] := by
  have m_Kind_parts : C8.Met P w K mg base 1 (CK K) "parts" (spKiParts K) [] := m_Kind_parts T
  refine T.met 9 71 76 rfl rfl rfl sc_Kind_eq ?_ (fun _ _ _ _ _ _ us hl => match us, hl with | [_, _], _ => rfl) ?_
  · rintro vs H Q E ⟨a, b, rfl, _⟩; rfl
  · rintro cdv A outer s H vs Q E hr ⟨a, b, rfl, ⟨k, ⟨pa, da, ea, ha⟩, ⟨pb, db, eb, hb⟩⟩, h⟩
    cases ea
    cases eb
    refine ⟨_, (pss_one (ps_ret (pe_and (pe_callB (C8.call_isC T.ins) (by rfl) T.n_isinstance boot_isinst (pa_cons (pv 1) (pa_cons (pe_glob (v := .ref (He.ga K "Kind")) rfl T.g_Kind rfl) pa_nil))) (pe_one (pe_cmpR (op_eqD hr.units) (C8.pe_mt0 m_Kind_parts hr (by decide) (pv 0)) (C8.pe_mt0 m_Kind_parts hr (by decide) (pv 1)) (nomark _)))))), ?_⟩
    refine ⟨_, rfl, b, db, _, rfl, hb, true, rfl, iteT ?_⟩
    refine ⟨_, rfl, a, da, _, rfl, ha, rfl, _, k, rfl, ⟨a, da, rfl, ha⟩, fun t H1 s1 ht => ?_⟩
    refine ⟨_, rfl, b, db, _, rfl, s1 _ _ hb, rfl, _, k, rfl, ⟨b, db, rfl, s1 _ _ hb⟩, fun t2 H2 s2 ht2 => ?_⟩
    refine ⟨_, _, dp_sh (ShAt.mono _ _ _ _ s2 ht), dp_sh ht2, shaped_shD _, shaped_shD _, ?_⟩
    rw [eqv_shD, decide_eq_true rfl]
    exact h _ (s1.trans s2)
def spJoin : Sp := fun vs H Q _ => ∃ (v : V) (ps : List (Int × Int)), vs = [v] ∧ RsAt H v ps ∧ ps.length ≤ 1000 ∧ ∀ u H' ys, Same H H' → ys.Perm ps → ys.Pairwise lexLe → RsAt H' u (joinR ys) → Q u H'
abbrev N_ranges_joined : List Str := ["ranges", "found", "first", "last"]
theorem sc_ranges_joined : FnScope N_ranges_joined ["ranges"] (defScope s_ranges_joined) := ⟨rfl, rfl, rfl, by decide +kernel, rfl, by decide +kernel, by decide +kernel⟩
theorem c_ranges_joined (T : Tx K mg) : C8.Cal P w K mg base 1 "ranges_joined" spJoin [] := by
  refine T.cal 24 19 rfl rfl sc_ranges_joined ?_ (fun _ _ _ _ _ _ us hl => match us, hl with | [_], _ => rfl) ?_
  · rintro vs H Q E ⟨v, k, rfl, _⟩; rfl
  · rintro cdv A outer s H vs Q E hr ⟨v, ps, rfl, ⟨a, us, rfl, ha, hp⟩, h1000, h⟩
    refine ⟨_, (pss_cons (ps_set (i := 1) sc_ranges_joined.nd rfl (Or.inl rfl) (pe_lst pa_nil))
      (pss_cons (ps_for PassesOwn.never rfl (pi_list (pe_callB cr_sortedPO (by rfl) T.n_sorted boot_sorted_ (pa_cons (pv 0) pa_nil))) (pg_tup rfl (pgs_cons (pg_name (i := 2) sc_ranges_joined.nd rfl (Or.inl rfl)) (pgs_cons (pg_name (i := 3) sc_ranges_joined.nd rfl (Or.inl rfl)) pgs_nil)))
        (pss_one (ps_if (PW.pt (pw_and (pt_cmpR op_le (pv 2) (pv 3) (nomark _)) (pw_and (pt_cmpR (op_neD hr.units) (pv 1) (pe_lst pa_nil) (nomark _)) (pw_and1 (pt_cmpR op_eqi (pe_op op_add (pe_ix ix_tup (pe_ix ix_list (pv 1) (pe_un un_neg pe_int) (fun _ _ => rfl)) pe_int (fun _ _ => rfl)) pe_int) (pv 2) (nomark _)))))) (pss_one (ps_asg (pe_tup (pa_cons (pe_ix ix_tup (pe_ix ix_list (pv 1) (pe_un un_neg pe_int) (fun _ _ => rfl)) pe_int (fun _ _ => rfl)) (pa_cons (pv 3) pa_nil))) (pg_sub (pv 1) (pe_un un_neg pe_int) set_list))) (pss_one (ps_if (pt_cmpR op_le (pv 2) (pv 3) (nomark _)) (pss_one (ps_expr (pe_bm PySem.F.plainAttrs_list PySem.F.slot_list_append PySem.F.type_list_append mt_append (pv 1) (pa_cons (pe_tup (pa_cons (pv 2) (pa_cons (pv 3) pa_nil))) pa_nil)))) pss_nil)))))
      (pss_one (ps_ret (pv 1))))), ?_⟩
    refine ⟨by show 0 ≤ sizeLine; decide, fun f hf => ?_⟩
    have s1 := same_new (o := .lst []) hf
    have hp1 := sta_rg.same s1 hp
    refine ⟨_, rfl, a, us, rgOf (upd H f (.lst [])), rfl, SqL.of (s1 _ _ ha), fun x m => ?_, fun ys q hs ht hq => ?_⟩
    · obtain ⟨z, _, hz⟩ := paired_mem hp1 x m
      rw [rgOf_at hz]
      exact hz
    obtain ⟨zs, hzs, hperm, hlex⟩ := sorted_rgs hp1 hs ht
    have hfq : f ≠ q := fun z => by rw [← z, upd_same] at hq; cases hq
    have s2 : Same H (upd (upd H f (.lst [])) q (.lst ys)) := same_newer s1 hq
    have hlen := PySem.Paired.length hzs
    have hlen2 := hperm.length_eq
    refine ⟨q, rfl, ⟨_, SqL.of upd_same⟩, for_list (K := K) (a := q) (xs := ys) (fun i σ H2 => Same H H2 ∧ H2 q = some (.lst ys) ∧ Paired (RgAt H2) ys zs ∧ ∃ o1 o2 vs, H2 f = some (.lst vs) ∧ Paired (RgAt H2) vs (joinR (zs.take i)) ∧ σ = [some (.ref a), some (.ref f), o1, o2])
      ⟨s2, upd_same, sta_rg.same (same_new hq) hzs, none, none, [], ?_, .nil, rfl⟩ (fun i σ H2 _ z => SqL.of z.2.1) ?_ ?_⟩
    · rw [upd_ne hfq]; exact upd_same
    · rintro i x σ H2 hi ⟨sh, hq2, hz2, o1, o2, vs, hf2, hv2, rfl⟩
      obtain ⟨z, hz, t, rfl, ht⟩ := Paired.get hz2 hi
      have e : joinR (zs.take (i + 1)) = joinStep (joinR (zs.take i)) z := by
        unfold joinR
        rw [List.take_add_one, hz, List.foldl_append]
        rfl
      have hjl : (joinR (zs.take i)).length ≤ 1000 := by
        have := joinR_len (zs.take i)
        rw [List.length_take] at this
        omega
      have hvl := PySem.Paired.length hv2
      refine ⟨t, _, rfl, SqT.of ht, rfl, _, _, rfl, _, _, rfl, rfl, ?_⟩
      -- what comes of a list put back
      have back : ∀ (H3 : Hp) (vs' : List V), Same H2 H3 → Paired (RgAt H3) vs' (joinR (zs.take (i + 1))) → Same H (upd H3 f (.lst vs')) ∧ (upd H3 f (.lst vs')) q = some (.lst ys) ∧ Paired (RgAt (upd H3 f (.lst vs'))) ys zs ∧ (upd H3 f (.lst vs')) f = some (.lst vs') ∧ Paired (RgAt (upd H3 f (.lst vs'))) vs' (joinR (zs.take (i + 1))) := by
        intro H3 vs' s3 hv'
        have hf3 := s3 _ _ hf2
        refine ⟨same_own (sh.trans s3) hf, ?_, sta_rg.paired hf3 (sta_rg.same s3 hz2), upd_same, sta_rg.paired hf3 hv'⟩
        rw [upd_ne (Ne.symm hfq)]
        exact s3 _ _ hq2
      refine ⟨_, rfl, _, rfl, _, _, rfl, rfl, _, rfl, ?_⟩
      by_cases c1 : z.1 ≤ z.2
      · rw [decide_eq_true c1]
        refine iteT ⟨_, rfl, by show 0 ≤ sizeLine; decide, fun n hn => ⟨_, _, dp_rgs ⟨f, vs, rfl, (same_new hn) _ _ hf2, sta_rg.same (same_new hn) hv2⟩, dp_nil upd_same, shaped_pDs _, shaped_pDs [], _, rfl, ?_⟩⟩
        have s3 : Same H2 (upd H2 n (.lst [])) := same_new hn
        have hv3 := sta_rg.same s3 hv2
        rw [show (PyData.list ([] : List PyData)) = PyData.list (([] : List (Int × Int)).map pD) from rfl, eqv_list pD eqv_pD]
        rcases List.eq_nil_or_concat (joinR (zs.take i)) with e0 | ⟨bs, b, e0⟩
        · rw [e0, joinStep_nil, if_pos c1] at e
          rw [e0] at hv3
          cases hv3
          rw [e0]
          refine iteF (iteF ⟨_, rfl, _, rfl, _, _, rfl, rfl, _, rfl, ?_⟩)
          rw [decide_eq_true c1]
          have hf3 := s3 _ _ hf2
          rw [e0] at hv2
          cases hv2
          refine iteT ⟨_, rfl, .inl ⟨rfl, _, SqL.of hf3⟩, _, rfl, _, rfl, by show 2 ≤ sizeLine; decide, fun m hm => ?_⟩
          have s4 : Same H2 (upd (upd H2 n (.lst [])) m (.tup [.int z.1, .int z.2])) := same_newer s3 hm
          refine ⟨f, _, _, rfl, rfl, s4 _ _ hf2, small (Nat.zero_le _), ?_⟩
          obtain ⟨b1, b2, b3, b4, b5⟩ := back _ [.ref m] s4 (by rw [e]; exact .cons ⟨m, rfl, upd_same⟩ .nil)
          exact ⟨b1, b2, b3, _, _, _, b4, b5, rfl⟩
        · rw [List.concat_eq_append] at e0
          rw [e0, joinStep_at] at e
          rw [e0] at hv3
          obtain ⟨vs0, v0, rfl, hv0, hb⟩ := Paired.snoc hv3
          obtain ⟨tb, rfl, htb⟩ := hb
          rw [e0, decide_eq_false (by simp)]
          have hf3 := s3 _ _ hf2
          refine iteT ⟨_, rfl, _, rfl, f, _, _, _, rfl, rfl, SqL.of hf3, atI_last _ _, tb, _, _, _, rfl, rfl, SqT.of htb, rfl, _, _, rfl, rfl, _, rfl, _, _, rfl, rfl, _, rfl, ?_⟩
          by_cases c2 : b.2 + 1 = z.1
          · rw [if_pos ⟨c1, c2⟩] at e
            rw [decide_eq_true c2]
            refine iteT ⟨_, rfl, _, rfl, f, _, _, _, rfl, rfl, SqL.of hf3, atI_last _ _, tb, _, _, _, rfl, rfl, SqT.of htb, rfl, _, rfl, by show 2 ≤ sizeLine; decide, fun m hm => ?_⟩
            refine ⟨_, rfl, _, rfl, f, _, _, vs0.length, rfl, rfl, (same_new hm) _ _ hf3, by rw [List.length_append, List.length_singleton]; exact ixN_last _, ?_⟩
            have s4 : Same H2 (upd (upd H2 n (.lst [])) m (.tup [.int b.1, .int z.2])) := same_newer s3 hm
            obtain ⟨b1, b2, b3, b4, b5⟩ := back _ (vs0 ++ [.ref m]) s4 (by rw [e]; exact Paired.app (sta_rg.same (same_new hm) hv0) (.cons ⟨m, rfl, upd_same⟩ .nil))
            rw [set_last]
            exact ⟨b1, b2, b3, _, _, _, b4, b5, rfl⟩
          · rw [if_neg (fun z => c2 z.2), if_pos c1] at e
            rw [decide_eq_false c2]
            refine iteF ⟨_, rfl, _, rfl, _, _, rfl, rfl, _, rfl, ?_⟩
            rw [decide_eq_true c1]
            refine iteT ⟨_, rfl, .inl ⟨rfl, _, SqL.of hf3⟩, _, rfl, _, rfl, by show 2 ≤ sizeLine; decide, fun m hm => ?_⟩
            have s4 : Same H2 (upd (upd H2 n (.lst [])) m (.tup [.int z.1, .int z.2])) := same_newer s3 hm
            rw [e0, List.length_append, List.length_singleton] at hjl
            have hl0 := PySem.Paired.length hv0
            refine ⟨f, _, _, rfl, rfl, s4 _ _ hf2, small (by rw [List.length_append, List.length_singleton]; omega), ?_⟩
            obtain ⟨b1, b2, b3, b4, b5⟩ := back _ (vs0 ++ [.ref tb] ++ [.ref m]) s4 (by rw [e]; exact Paired.app (sta_rg.same (same_new hm) hv3) (.cons ⟨m, rfl, upd_same⟩ .nil))
            exact ⟨b1, b2, b3, _, _, _, b4, b5, rfl⟩
      · rw [decide_eq_false c1]
        have e2 : joinStep (joinR (zs.take i)) z = joinR (zs.take i) := by
          unfold joinStep
          rw [if_neg (fun y => c1 y.1), if_neg c1]
        rw [e2] at e
        refine iteF (iteF ⟨_, rfl, _, rfl, _, _, rfl, rfl, _, rfl, ?_⟩)
        rw [decide_eq_false c1]
        exact iteF ⟨sh, hq2, hz2, _, _, vs, hf2, by rw [e]; exact hv2, rfl⟩
    · rintro σ H2 ⟨sh, hq2, hz2, o1, o2, vs, hf2, hv2, rfl⟩
      rw [hlen, List.take_length] at hv2
      exact ⟨_, rfl, h _ _ _ sh hperm hlex ⟨f, vs, rfl, hf2, hv2⟩⟩
end
end Fw



/-! Survivors, results, origins. -/
namespace Fw
open PySem PySem.Spec PyProof.Rows L2 Rw
/-- how many origins -/
def tot (k : Kd) (e : Ef) (y : Int) : Int := if (e.rest y).isSome = true then many k e else 0
theorem tot_some {k : Kd} {e : Ef} {y r : Int} (h : e.rest y = some r) : tot k e y = many k e := by unfold tot; rw [h]; rfl
theorem tot_none {k : Kd} {e : Ef} {y : Int} (h : e.rest y = none) : tot k e y = 0 := by unfold tot; rw [h]; rfl
theorem P2_abs' {n : Nat} {i : Int} (h : n ≤ 128) (h0 : -P2 n ≤ i) (h1 : i ≤ P2 n) : i.natAbs < 2 ^ 129 := P2_abs (by omega) h0 h1
theorem P2_abs1 {n : Nat} (h : n ≤ 128) : (P2 n).natAbs < 2 ^ 129 := P2_abs' h (by have := P2_pos n; omega) (Int.le_refl _)
section
variable {P : Program} {w : World} {K : PySem.W.Frag} {mg : Str → Option Value} {base : Heap}
theorem eff_kd {k : Kd} {ks : List Kd} (hk : k.Ok) (h : RowOk ks) : (effOf (k :: ks)).Ok := effOf_ok (by simp) (row_all hk h)
def spSurv (K : PySem.W.Frag) : Sp := fun vs H Q _ => ∃ (v u : V) (k : Kd) (ks : List Kd), vs = [v, u] ∧ KiAt K H v k ∧ k.Ok ∧ KsAt K H u ks ∧ RowOk ks ∧
  ∀ x H' ys, Same H H' → ys.Perm [clip k (effOf (k :: ks)).r1, clip k (effOf (k :: ks)).r2] → ys.Pairwise lexLe → RsAt H' x (joinR ys) → Q x H'
abbrev N_survivors : List Str := ["kind", "kinds", "effect", "low", "high", "first", "last"]
theorem sc_survivors : FnScope N_survivors ["kind", "kinds"] (defScope s_survivors) := ⟨rfl, rfl, rfl, by decide +kernel, rfl, by decide +kernel, by decide +kernel⟩
theorem c_survivors (T : Tx K mg) : C8.Cal P w K mg base 5 "survivors" (spSurv K) [] := by
  have c_effect_for : C8.Cal P w K mg base 4 "effect_for" (spEfFor K) [] := c_effect_for T
  have c_ranges_joined : C8.Cal P w K mg base 1 "ranges_joined" spJoin [] := c_ranges_joined T
  have c_low_of : C8.Cal P w K mg base 1 "low_of" (spKi K fun k => .int (Rw.lo k)) [] := c_low_of T
  have c_size_of : C8.Cal P w K mg base 1 "size_of" (spKi K fun k => .int (P2 k.w)) [] := c_size_of T
  have m_Effect_image : C8.Met P w K mg base 1 (CE K) "image" (spEf K fun H Q e => ∀ v H', Same H H' → RsAt H' v e.image → Q v H') [] := m_Effect_image T
  refine T.cal 27 22 rfl rfl sc_survivors ?_ (fun _ _ _ _ _ _ us hl => match us, hl with | [_, _], _ => rfl) ?_
  · rintro vs H Q E ⟨v, u, k, ks, rfl, _⟩; rfl
  · rintro cdv A outer s H vs Q E hr ⟨v, u, k, ks, rfl, hv, hk, hu, hro, h⟩
    refine ⟨_, (pss_cons (ps_asg (pe_tup (pa_cons (C8.pe_c c_effect_for hr (by decide) rfl (pa_cons (pv 0) (pa_cons (pv 1) pa_nil))) (pa_cons (C8.pe_c c_low_of hr (by decide) rfl (pa_cons (pv 0) pa_nil)) pa_nil))) (pg_tup rfl (pgs_cons (pg_name (i := 2) sc_survivors.nd rfl (Or.inl rfl)) (pgs_cons (pg_name (i := 3) sc_survivors.nd rfl (Or.inr rfl)) pgs_nil))))
      (pss_cons (ps_set (i := 4) sc_survivors.nd rfl (Or.inr rfl) (pe_op op_sub (pe_op op_add (pv 3) (C8.pe_c c_size_of hr (by decide) rfl (pa_cons (pv 0) pa_nil))) pe_int))
      (pss_one (ps_ret (C8.pe_c c_ranges_joined hr (by decide) rfl (pa_cons (pe_lc (own := [("first", 5), ("last", 6)]) (g := gTup K 2 (gCons (gName 5) (gCons (gName 6) gNil))) (tt := tYes) (te := (_)) rfl sc_survivors.nd (pi_list (C8.pe_mt0 m_Effect_image hr (by decide) (pv 2))) (blkOk_by (own := [("first", 5), ("last", 6)]) (N := N_survivors) (sc := (defScope s_survivors)) (by decide +kernel)) (fun _ _ _ _ _ => (pg_tup rfl (pgs_cons (pg_name (i := 5) sc_survivors.nd rfl (Or.inl rfl)) (pgs_cons (pg_name (i := 6) sc_survivors.nd rfl (Or.inl rfl)) pgs_nil)))) (fun _ _ _ _ _ => pts_nil) (fun _ _ _ _ _ => (pe_tup (pa_cons (pe_callB (call_max2 rfl) (by rfl) T.n_max boot_max_ (pa_cons (pv 5) (pa_cons (pv 3) pa_nil))) (pa_cons (pe_callB (call_min2 rfl) (by rfl) T.n_min boot_min_ (pa_cons (pv 6) (pa_cons (pv 4) pa_nil))) pa_nil))))) pa_nil)))))), ?_⟩
    refine ⟨_, rfl, _, rfl, v, u, k, ks, rfl, hv, hk, hu, hro, fun x H1 s1 hx => ?_⟩
    refine ⟨_, rfl, v, k, rfl, ki_mono s1 hv, hk, by show 2 ≤ sizeLine; decide, fun t ht => ?_⟩
    have s2 := s1.trans (same_new (o := .tup [x, .int (Rw.lo k)]) ht)
    refine ⟨t, _, rfl, SqT.of upd_same, rfl, _, _, rfl, _, _, rfl, rfl, ?_⟩
    refine ⟨_, rfl, _, rfl, v, k, rfl, ki_mono s2 hv, hk, _, _, rfl, rfl, _, _, rfl, rfl, ?_⟩
    have hx2 := ef_mono (same_new (o := .tup [x, .int (Rw.lo k)]) ht) hx
    obtain ⟨p, dx, rfl, hp⟩ := hx2
    refine ⟨_, rfl, p, dx, _, rfl, hp, rfl, _, _, rfl, ⟨p, dx, rfl, hp⟩, eff_kd hk hro, fun l H3 s3 hl => ?_⟩
    obtain ⟨a, us, rfl, ha, hus⟩ := hl
    refine ⟨a, rfl, ⟨_, SqL.of ha⟩, fun D hD => lc_new (K := K) sta_rg [clip k (effOf (k :: ks)).r1, clip k (effOf (k :: ks)).r2] (show us.length = 2 from PySem.Paired.length hus) (by simp) hD (SqL.of ha) (fun i x H' hi s' Q' c => ?_) (fun bs H' s' hd hb => ?_)⟩
    · obtain ⟨z, hz, q, rfl, hq⟩ := Paired.get hus hi
      have hz2 : [clip k (effOf (k :: ks)).r1, clip k (effOf (k :: ks)).r2][i]? = some (clip k z) := by
        have : [clip k (effOf (k :: ks)).r1, clip k (effOf (k :: ks)).r2] = ((effOf (k :: ks)).image).map (clip k) := rfl
        rw [this, List.getElem?_map, hz]
        rfl
      refine ⟨q, _, rfl, SqT.of (s' _ _ hq), rfl, _, _, rfl, _, _, rfl, rfl, rfl, ?_⟩
      refine ⟨_, rfl, _, rfl, _, _, rfl, _, rfl, _, rfl, _, _, rfl, by show 2 ≤ sizeLine; decide, fun m hm => ?_⟩
      have e1 : (if Rw.lo k > z.1 then Rw.lo k else z.1) = (clip k z).1 := by unfold clip; split <;> (simp only []; omega)
      have e2 : (if Rw.lo k + P2 k.w - 1 < z.2 then Rw.lo k + P2 k.w - 1 else z.2) = (clip k z).2 := by unfold clip Rw.hi; split <;> (simp only []; omega)
      rw [e1, e2]
      exact c _ _ _ hz2 (same_new hm) ⟨m, rfl, upd_same⟩
    refine ⟨_, _, rfl, ⟨D, bs, rfl, hd, hb⟩, by simp, fun u' H4 ys s4 hperm hlex hj => ?_⟩
    exact h _ _ ys (((s2.trans s3).trans s').trans s4) hperm hlex hj
def spSurvT (K : PySem.W.Frag) : Sp := fun vs H Q _ => ∃ (v u : V) (k : Kd) (ks : List Kd), vs = [v, u] ∧ KiAt K H v k ∧ k.Ok ∧ KsAt K H u ks ∧ RowOk ks ∧
  ∀ H' ys, Same H H' → ys.Perm [clip k (effOf (k :: ks)).r1, clip k (effOf (k :: ks)).r2] → ys.Pairwise lexLe → Q (.int (sizes (joinR ys))) H'
abbrev N_survivor_total : List Str := ["kind", "kinds", "first", "last"]
theorem sc_survivor_total : FnScope N_survivor_total ["kind", "kinds"] (defScope s_survivor_total) := ⟨rfl, rfl, rfl, by decide +kernel, rfl, by decide +kernel, by decide +kernel⟩
theorem c_survivor_total (T : Tx K mg) : C8.Cal P w K mg base 6 "survivor_total" (spSurvT K) [] := by
  have c_survivors : C8.Cal P w K mg base 5 "survivors" (spSurv K) [] := c_survivors T
  refine T.cal 28 23 rfl rfl sc_survivor_total ?_ (fun _ _ _ _ _ _ us hl => match us, hl with | [_, _], _ => rfl) ?_
  · rintro vs H Q E ⟨v, u, k, ks, rfl, _⟩; rfl
  · rintro cdv A outer s H vs Q E hr ⟨v, u, k, ks, rfl, hv, hk, hu, hro, h⟩
    refine ⟨_, (pss_one (ps_ret (pe_callB (cr_sum rfl) (by rfl) T.n_sum boot_sum_ (pa_cons (pe_lc (own := [("first", 2), ("last", 3)]) (g := gTup K 2 (gCons (gName 2) (gCons (gName 3) gNil))) (tt := tYes) (te := (_)) rfl sc_survivor_total.nd (pi_list (C8.pe_c c_survivors hr (by decide) rfl (pa_cons (pv 0) (pa_cons (pv 1) pa_nil)))) (blkOk_by (own := [("first", 2), ("last", 3)]) (N := N_survivor_total) (sc := (defScope s_survivor_total)) (by decide +kernel)) (fun _ _ _ _ _ => (pg_tup rfl (pgs_cons (pg_name (i := 2) sc_survivor_total.nd rfl (Or.inl rfl)) (pgs_cons (pg_name (i := 3) sc_survivor_total.nd rfl (Or.inl rfl)) pgs_nil)))) (fun _ _ _ _ _ => pts_nil) (fun _ _ _ _ _ => (pe_op op_add (pe_op op_sub (pv 3) (pv 2)) pe_int))) pa_nil)))), ?_⟩
    refine ⟨_, rfl, _, rfl, v, u, k, ks, rfl, hv, hk, hu, hro, fun x H1 ys s1 hperm hlex hx => ?_⟩
    obtain ⟨a, us, rfl, ha, hus⟩ := hx
    have hle : (joinR ys).length ≤ 2 := by
      have h1 := joinR_len ys
      have h2 := hperm.length_eq
      simp at h2
      omega
    refine ⟨a, rfl, ⟨_, SqL.of ha⟩, fun D hD => lc_new (K := K) sta_i ((joinR ys).map fun p => p.2 - p.1 + 1) (by rw [List.length_map]; exact PySem.Paired.length hus) (by simp; omega) hD (SqL.of ha) (fun i x H' hi s' Q' c => ?_) (fun bs H' s' hd hb => ?_)⟩
    · obtain ⟨z, hz, q, rfl, hq⟩ := Paired.get hus hi
      refine ⟨q, _, rfl, SqT.of (s' _ _ hq), rfl, _, _, rfl, _, _, rfl, rfl, rfl, ?_⟩
      refine ⟨_, rfl, _, rfl, _, _, rfl, rfl, _, _, rfl, rfl, ?_⟩
      exact c _ _ _ (by rw [List.getElem?_map, hz]; rfl) (Same.refl _) rfl
    refine ⟨D, _, rfl, SqL.of (by rw [hd, ints_of hb]), ?_⟩
    exact h _ ys (s1.trans s') hperm hlex
def spRes (K : PySem.W.Frag) : Sp := fun vs H Q _ => ∃ (v u : V) (k : Kd) (ks : List Kd), vs = [v, u] ∧ KiAt K H v k ∧ k.Ok ∧ KsAt K H u ks ∧ RowOk ks ∧
  ∀ x H' ys, Same H H' → ys.Perm [(effOf (k :: ks)).r1, (effOf (k :: ks)).r2] → ys.Pairwise lexLe → RsAt H' x (joinR ys) → Q x H'
abbrev N_results : List Str := ["kind", "kinds"]
theorem sc_results : FnScope N_results ["kind", "kinds"] (defScope s_results) := ⟨rfl, rfl, rfl, by decide +kernel, rfl, by decide +kernel, by decide +kernel⟩
theorem c_results (T : Tx K mg) : C8.Cal P w K mg base 5 "results" (spRes K) [] := by
  have c_effect_for : C8.Cal P w K mg base 4 "effect_for" (spEfFor K) [] := c_effect_for T
  have c_ranges_joined : C8.Cal P w K mg base 1 "ranges_joined" spJoin [] := c_ranges_joined T
  have m_Effect_image : C8.Met P w K mg base 1 (CE K) "image" (spEf K fun H Q e => ∀ v H', Same H H' → RsAt H' v e.image → Q v H') [] := m_Effect_image T
  refine T.cal 29 24 rfl rfl sc_results ?_ (fun _ _ _ _ _ _ us hl => match us, hl with | [_, _], _ => rfl) ?_
  · rintro vs H Q E ⟨v, u, k, ks, rfl, _⟩; rfl
  · rintro cdv A outer s H vs Q E hr ⟨v, u, k, ks, rfl, hv, hk, hu, hro, h⟩
    refine ⟨_, (pss_one (ps_ret (C8.pe_c c_ranges_joined hr (by decide) rfl (pa_cons (C8.pe_mt0 m_Effect_image hr (by decide) (C8.pe_c c_effect_for hr (by decide) rfl (pa_cons (pv 0) (pa_cons (pv 1) pa_nil)))) pa_nil)))), ?_⟩
    refine ⟨_, rfl, _, rfl, v, u, k, ks, rfl, hv, hk, hu, hro, fun x H1 s1 hx => ?_⟩
    obtain ⟨p, dx, rfl, hp⟩ := hx
    refine ⟨p, dx, _, rfl, hp, rfl, _, _, rfl, ⟨p, dx, rfl, hp⟩, eff_kd hk hro, fun l H3 s3 hl => ?_⟩
    refine ⟨l, _, rfl, hl, by show 2 ≤ 1000; decide, fun u' H4 ys s4 hperm hlex hj => ?_⟩
    exact h _ _ ys ((s1.trans s3).trans s4) hperm hlex hj
def spTot (K : PySem.W.Frag) : Sp := fun vs H Q _ => ∃ (v u : V) (k : Kd) (ks : List Kd) (y : Int), vs = [v, u, .int y] ∧ KiAt K H v k ∧ k.Ok ∧ KsAt K H u ks ∧ RowOk ks ∧ ∀ H', Same H H' → Q (.int (tot k (effOf (k :: ks)) y)) H'
abbrev N_origin_total : List Str := ["kind", "kinds", "y", "effect"]
theorem sc_origin_total : FnScope N_origin_total ["kind", "kinds", "y"] (defScope s_origin_total) := ⟨rfl, rfl, rfl, by decide +kernel, rfl, by decide +kernel, by decide +kernel⟩
theorem c_origin_total (T : Tx K mg) : C8.Cal P w K mg base 5 "origin_total" (spTot K) [] := by
  have c_effect_for : C8.Cal P w K mg base 4 "effect_for" (spEfFor K) [] := c_effect_for T
  have c_check_integer : C8.Cal P w K mg base 2 "check_integer" spCkInt [] := c_check_integer T
  have m_Effect_rest_of : C8.Met P w K mg base 2 (CE K) "rest_of" (spRest K) [] := m_Effect_rest_of T
  refine T.cal 30 25 rfl rfl sc_origin_total ?_ (fun _ _ _ _ _ _ us hl => match us, hl with | [_, _, _], _ => rfl) ?_
  · rintro vs H Q E ⟨v, u, k, ks, y, rfl, _⟩; rfl
  · rintro cdv A outer s H vs Q E hr ⟨v, u, k, ks, y, rfl, hv, hk, hu, hro, h⟩
    refine ⟨_, (pss_cons (ps_set (i := 3) sc_origin_total.nd rfl (Or.inl rfl) (C8.pe_c c_effect_for hr (by decide) rfl (pa_cons (pv 0) (pa_cons (pv 1) pa_nil))))
      (pss_cons (ps_expr (C8.pe_c c_check_integer hr (by decide) rfl (pa_cons pe_str (pa_cons (pv 2) pa_nil))))
      (pss_one (ps_ret (pe_ifExp (pt_cmpR op_isN (C8.pe_mt m_Effect_rest_of hr (by decide) (pv 3) (pa_cons (pv 2) pa_nil)) pe_non (nomark _)) pe_int (pe_op op_shl1 pe_int (pe_op op_sub (pe_fld (pv 0) rfl) (pe_fld (pv 3) rfl)))))))), ?_⟩
    refine ⟨_, rfl, _, rfl, v, u, k, ks, rfl, hv, hk, hu, hro, fun x H1 s1 hx => ?_⟩
    refine ⟨_, rfl, _, y, rfl, ?_⟩
    obtain ⟨p, dx, rfl, hp⟩ := hx
    have hb : (effOf (k :: ks)).b ≤ k.w := effOf_b k ks
    have ho := eff_kd hk hro
    refine ⟨_, rfl, p, dx, _, rfl, hp, rfl, _, rfl, _, _, y, rfl, ⟨p, dx, rfl, hp⟩, ho, fun H2 s2 => ?_⟩
    have hv2 := ki_mono (s1.trans s2) hv
    obtain ⟨pk, dk, rfl, hpk⟩ := hv2
    cases e : (effOf (k :: ks)).rest y with
    | none =>
      rw [tot_none e] at h
      exact ⟨rfl, true, rfl, iteT (h _ (s1.trans s2))⟩
    | some r =>
      rw [tot_some e] at h
      refine ⟨rfl, false, rfl, iteF ⟨_, rfl, pk, _, dk, _, _, rfl, hpk, T.cK, T.K_bits, kfs_bits k, _, rfl, p, _, dx, _, _, rfl, s2 _ _ hp, T.cE, T.E_bits, efs_bits _, _, _, rfl, rfl, k.w - (effOf (k :: ks)).b, rfl, ?_, ?_, ?_⟩⟩
      · exact congrArg V.int (by omega)
      · have := hk.2; omega
      · exact h _ (s1.trans s2)
def spOAt (K : PySem.W.Frag) : Sp := fun vs H Q _ => ∃ (v u : V) (k : Kd) (ks : List Kd) (y j r : Int), vs = [v, u, .int y, .int j] ∧ KiAt K H v k ∧ k.Ok ∧ KsAt K H u ks ∧ RowOk ks ∧ (effOf (k :: ks)).rest y = some r ∧ 0 ≤ j ∧ j < many k (effOf (k :: ks)) ∧ ∀ H', Same H H' → Q (.int (origin k (effOf (k :: ks)) r j)) H'
theorem many_le {k : Kd} {e : Ef} (hk : k.Ok) : many k e ≤ P2 128 := P2_le (by have := hk.2; omega)
theorem many_pos (k : Kd) (e : Ef) : 0 < many k e := P2_pos _
abbrev N_origin_at : List Str := ["kind", "kinds", "y", "j", "effect", "low", "size"]
theorem sc_origin_at : FnScope N_origin_at ["kind", "kinds", "y", "j"] (defScope s_origin_at) := ⟨rfl, rfl, rfl, by decide +kernel, rfl, by decide +kernel, by decide +kernel⟩
theorem c_origin_at (T : Tx K mg) : C8.Cal P w K mg base 6 "origin_at" (spOAt K) [] := by
  have c_effect_for : C8.Cal P w K mg base 4 "effect_for" (spEfFor K) [] := c_effect_for T
  have c_check_between : C8.Cal P w K mg base 3 "check_between" spCkBet [] := c_check_between T
  have c_origin_total : C8.Cal P w K mg base 5 "origin_total" (spTot K) [] := c_origin_total T
  have c_low_of : C8.Cal P w K mg base 1 "low_of" (spKi K fun k => .int (Rw.lo k)) [] := c_low_of T
  have m_Effect_rest_of : C8.Met P w K mg base 2 (CE K) "rest_of" (spRest K) [] := m_Effect_rest_of T
  refine T.cal 31 26 rfl rfl sc_origin_at ?_ (fun _ _ _ _ _ _ us hl => match us, hl with | [_, _, _, _], _ => rfl) ?_
  · rintro vs H Q E ⟨v, u, k, ks, y, j, r, rfl, _⟩; rfl
  · rintro cdv A outer s H vs Q E hr ⟨v, u, k, ks, y, j, r, rfl, hv, hk, hu, hro, hrest, hj0, hj1, h⟩
    refine ⟨_, (pss_cons (ps_expr (C8.pe_c c_check_between hr (by decide) rfl (pa_cons pe_str (pa_cons (pv 3) (pa_cons pe_int (pa_cons (pe_op op_sub (C8.pe_c c_origin_total hr (by decide) rfl (pa_cons (pv 0) (pa_cons (pv 1) (pa_cons (pv 2) pa_nil)))) pe_int) pa_nil))))))
      (pss_cons (ps_par (i := 4) (j := 5) rfl sc_origin_at.nd rfl rfl (by decide) rfl rfl (pa_cons (C8.pe_c c_effect_for hr (by decide) rfl (pa_cons (pv 0) (pa_cons (pv 1) pa_nil))) (pa_cons (C8.pe_c c_low_of hr (by decide) rfl (pa_cons (pv 0) pa_nil)) pa_nil)) (by rfl))
      (pss_cons (ps_set (i := 6) sc_origin_at.nd rfl (Or.inl rfl) (pe_op op_shl1 pe_int (pe_fld (pv 4) rfl)))
      (pss_one (ps_ret (pe_op op_add (pe_op op_add (pv 5) (pe_op op_mod (pe_op op_sub (C8.pe_mt m_Effect_rest_of hr (by decide) (pv 4) (pa_cons (pv 2) pa_nil)) (pv 5)) (pv 6))) (pe_op op_mulW (pv 3) (pv 6)))))))), ?_⟩
    have hb : (effOf (k :: ks)).b ≤ k.w := effOf_b k ks
    have ho := eff_kd hk hro
    refine ⟨_, rfl, _, rfl, _, rfl, _, rfl, v, u, k, ks, y, rfl, hv, hk, hu, hro, fun H1 s1 => ?_⟩
    rw [tot_some hrest]
    refine ⟨_, _, rfl, rfl, _, _, _, _, rfl, hj0, by omega, ?_⟩
    refine ⟨_, rfl, _, rfl, v, u, k, ks, rfl, ki_mono s1 hv, hk, ks_mono s1 hu, hro, fun x H2 s2 hx => ?_⟩
    obtain ⟨p, dx, rfl, hp⟩ := hx
    have s12 := s1.trans s2
    refine ⟨_, rfl, v, k, rfl, ki_mono s12 hv, hk, _, _, rfl, ?_⟩
    have hbw : (effOf (k :: ks)).b ≤ 128 := by have := hk.2; omega
    refine ⟨_, rfl, p, _, dx, _, _, rfl, hp, T.cE, T.E_bits, efs_bits _, _, rfl, rfl, by omega, ?_⟩
    refine ⟨_, rfl, _, rfl, p, dx, _, rfl, hp, rfl, _, rfl, _, _, y, rfl, ⟨p, dx, rfl, hp⟩, ho, fun H3 s3 => ?_⟩
    rw [hrest]
    refine ⟨_, rfl, _, _, rfl, rfl, _, rfl, _, _, rfl, rfl, P2_pos _, _, _, rfl, rfl, _, rfl, _, rfl, _, _, rfl, rfl, ?_, _, _, rfl, rfl, ?_⟩
    · exact wide_mul (P2_abs' (n := 128) (by decide) (by have := P2_pos 128; omega) (by have := many_le (e := effOf (k :: ks)) hk; omega)) (P2_abs1 hbw) (by decide) (by decide) (by decide)
    · exact h _ (s12.trans s3)
end
end Fw



/-! Apart. -/
namespace Fw
open PySem PySem.Spec PyProof.Rows L2 Rw
/-- as it was, all but the object at p -/
def SamX (p : Addr) (H H' : Hp) : Prop := ∀ a o, a ≠ p → H a = some o → H' a = some o
theorem SamX.of {p : Addr} {H H' : Hp} (s : Same H H') : SamX p H H' := fun a o _ e => s a o e
theorem SamX.refl (p : Addr) (H : Hp) : SamX p H H := fun _ _ _ e => e
theorem SamX.trans {p : Addr} {H H' H2 : Hp} (s : SamX p H H') (t : SamX p H' H2) : SamX p H H2 := fun a o n e => t a o n (s a o n e)
theorem SamX.upd {p : Addr} {H H' : Hp} {o : HO} (s : SamX p H H') : SamX p H (upd H' p o) := fun a u n e => by
  rw [upd_ne n]; exact s a u n e
theorem SamX.same {p : Addr} {H H' : Hp} (s : SamX p H H') (h : H p = none) : Same H H' := fun a o e => s a o (ne_of_none e h) e
theorem sx_rg {p : Addr} {H H' : Hp} {xs : List V} (h : H p = some (.lst xs)) (s : SamX p H H') {v : V} {r : Int × Int} (q : RgAt H v r) : RgAt H' v r := by
  obtain ⟨a, e, ha⟩ := q
  exact ⟨a, e, s a _ (fun z => by rw [z, h] at ha; cases ha) ha⟩
theorem sx_ef {K : PySem.W.Frag} {p : Addr} {H H' : Hp} {xs : List V} (h : H p = some (.lst xs)) (s : SamX p H H') {v : V} {e : Ef} (q : EfAt K H v e) : EfAt K H' v e := by
  obtain ⟨a, dx, ev, ha⟩ := q
  exact ⟨a, dx, ev, s a _ (fun z => by rw [z, h] at ha; cases ha) ha⟩
theorem block_len (e f : Ef) (i j : Int) : (block e f i j).length ≤ 1 := by
  unfold block
  split <;> simp
/-- the blocks of one side, of the sides so far -/
def blI (e f : Ef) (i j : Nat) : List (Int × Int) := (List.range j).flatMap fun t : Nat => block e f (i : Int) (t : Int)
def blO (e f : Ef) (i : Nat) : List (Int × Int) := (List.range i).flatMap fun s : Nat => blI e f s 2
theorem blI_succ (e f : Ef) (i j : Nat) : blI e f i (j + 1) = blI e f i j ++ block e f i j := by
  unfold blI
  rw [List.range_succ, List.flatMap_append]
  simp
theorem blO_succ (e f : Ef) (i : Nat) : blO e f (i + 1) = blO e f i ++ blI e f i 2 := by
  unfold blO
  rw [List.range_succ, List.flatMap_append]
  simp
theorem blO_two (e f : Ef) : blO e f 2 = places e f := by
  rw [blO_succ, blO_succ, blI_succ, blI_succ, blI_succ, blI_succ]
  unfold blO blI places
  simp
theorem bl_len (e f : Ef) (i j : Nat) (hi : i ≤ 2) (hj : j ≤ 2) : (blO e f i ++ blI e f i j).length ≤ 10 := by
  have hI : ∀ i j, (blI e f i j).length ≤ j := by
    intro i j
    induction j with
    | zero => simp [blI]
    | succ j ih =>
      have := block_len e f i j
      rw [blI_succ, List.length_append]
      omega
  have hO : ∀ i, (blO e f i).length ≤ 2 * i := by
    intro i
    induction i with
    | zero => simp [blO]
    | succ i ih =>
      have := hI i 2
      rw [blO_succ, List.length_append]
      omega
  have h1 := hI i j
  have h2 := hO i
  rw [List.length_append]
  omega
theorem two_at {i : Nat} {x : V} (h : [V.int 0, V.int 1][i]? = some x) : x = .int (i : Int) ∧ ((i : Int) = 0 ∨ (i : Int) = 1) ∧ i < 2 := by
  match i, h with
  | 0, h => cases h; exact ⟨rfl, .inl rfl, by decide⟩
  | 1, h => cases h; exact ⟨rfl, .inr rfl, by decide⟩
section
variable {P : Program} {w : World} {K : PySem.W.Frag} {mg : Str → Option Value} {base : Heap}
def spPlace (K : PySem.W.Frag) : Sp := fun vs H Q _ => ∃ (v : V) (f : Ef) (n sd : Int), vs = [v, .int n, .int sd] ∧ EfAt K H v f ∧ f.Ok ∧ (sd = 0 ∨ sd = 1) ∧ Q (.bl (isPlace f n sd)) H
abbrev N_is_place : List Str := ["effect", "n", "side", "half"]
theorem sc_is_place : FnScope N_is_place ["effect", "n", "side"] (defScope s_is_place) := ⟨rfl, rfl, rfl, by decide +kernel, rfl, by decide +kernel, by decide +kernel⟩
theorem c_is_place (T : Tx K mg) : C8.Cal P w K mg base 1 "is_place" (spPlace K) [] := by
  refine T.cal 33 28 rfl rfl sc_is_place ?_ (fun _ _ _ _ _ _ us hl => match us, hl with | [_, _, _], _ => rfl) ?_
  · rintro vs H Q E ⟨v, f, n, sd, rfl, _⟩; rfl
  · rintro cdv A outer s H vs Q E hr ⟨v, f, n, sd, rfl, ⟨p, dx, rfl, hp⟩, ho, hsd, h⟩
    refine ⟨_, (pss_cons (ps_set (i := 3) sc_is_place.nd rfl (Or.inl rfl) (pe_op op_shl1 pe_int (pe_op op_sub (pe_fld (pv 0) rfl) pe_int)))
      (pss_one (ps_ret (pe_chain op_le op_lt (pe_op op_mul (pv 2) (pv 3)) (pv 1) (pe_op op_mul (pe_op op_add (pv 2) pe_int) (pv 3)))))), ?_⟩
    obtain ⟨o1, o2, o3, o4⟩ := ho
    refine ⟨_, rfl, p, _, dx, _, _, rfl, hp, T.cE, T.E_bits, efs_bits f, _, _, rfl, rfl, f.b - 1, rfl, pred_i o1, by omega, ?_⟩
    refine ⟨_, rfl, _, rfl, _, _, rfl, rfl, .inl (by omega), _, rfl, _, _, rfl, rfl, _, rfl, ?_⟩
    unfold isPlace at h
    rw [Bool.decide_and] at h
    by_cases c1 : sd * P2 (f.b - 1) ≤ n
    · rw [decide_eq_true c1, Bool.true_and] at h
      rw [decide_eq_true c1]
      refine iteT ⟨_, rfl, _, _, rfl, rfl, _, rfl, _, _, rfl, rfl, .inl (by omega), _, _, rfl, rfl, h⟩
    · rw [decide_eq_false c1, Bool.false_and] at h
      rw [decide_eq_false c1]
      exact iteF h
def spPlaces (K : PySem.W.Frag) : Sp := fun vs H Q _ => ∃ (v u : V) (e f : Ef), vs = [v, u] ∧ EfAt K H v e ∧ EfAt K H u f ∧ e.Ok ∧ f.Ok ∧ ∀ x H', Same H H' → RsAt H' x (places e f) → Q x H'
abbrev N_places_alike : List Str := ["one", "other", "half", "found", "side", "its_side", "begin"]
theorem sc_places_alike : FnScope N_places_alike ["one", "other"] (defScope s_places_alike) := ⟨rfl, rfl, rfl, by decide +kernel, rfl, by decide +kernel, by decide +kernel⟩
theorem c_places_alike (T : Tx K mg) : C8.Cal P w K mg base 2 "places_alike" (spPlaces K) [] := by
  have c_is_place : C8.Cal P w K mg base 1 "is_place" (spPlace K) [] := c_is_place T
  refine T.cal 32 27 rfl rfl sc_places_alike ?_ (fun _ _ _ _ _ _ us hl => match us, hl with | [_, _], _ => rfl) ?_
  · rintro vs H Q E ⟨v, u, e, f, rfl, _⟩; rfl
  · rintro cdv A outer s H vs Q E hr ⟨v, u, e, f, rfl, hv, hu, oe, of, h⟩
    refine ⟨_, (pss_cons (ps_par (i := 2) (j := 3) rfl sc_places_alike.nd rfl rfl (by decide) rfl rfl (pa_cons (pe_op op_shl1 pe_int (pe_op op_sub (pe_fld (pv 0) rfl) pe_int)) (pa_cons (pe_lst pa_nil) pa_nil)) (by rfl))
      (pss_cons (ps_for PassesOwn.never rfl (pi_tup (pe_tup (pa_cons pe_int (pa_cons pe_int pa_nil)))) (pg_name (i := 4) sc_places_alike.nd rfl (Or.inl rfl))
        (pss_one (ps_for PassesOwn.never rfl (pi_tup (pe_tup (pa_cons pe_int (pa_cons pe_int pa_nil)))) (pg_name (i := 5) sc_places_alike.nd rfl (Or.inl rfl))
            (pss_cons (ps_set (i := 6) sc_places_alike.nd rfl (Or.inl rfl) (pe_op op_sub (pe_op op_mul (pv 4) (pe_op op_add (pv 2) (pe_fld (pv 0) rfl))) (pe_op op_mul (pv 5) (pe_fld (pv 1) rfl))))
              (pss_one (ps_if (pt_val (C8.pe_c c_is_place hr (by decide) rfl (pa_cons (pv 1) (pa_cons (pv 6) (pa_cons (pv 5) pa_nil))))) (pss_one (ps_expr (pe_bm PySem.F.plainAttrs_list PySem.F.slot_list_append PySem.F.type_list_append mt_append (pv 3) (pa_cons (pe_tup (pa_cons (pv 6) (pa_cons (pe_op op_sub (pe_op op_add (pv 6) (pv 2)) pe_int) pa_nil))) pa_nil)))) pss_nil))))))
      (pss_one (ps_ret (pv 3))))), ?_⟩
    have o1 := oe.b1
    have o2 := oe.bw
    have o3 := oe.w128
    obtain ⟨p, dx, rfl, hp⟩ := hv
    obtain ⟨q, dy, rfl, hq⟩ := hu
    refine ⟨_, rfl, p, _, dx, _, _, rfl, hp, T.cE, T.E_bits, efs_bits e, _, _, rfl, rfl, e.b - 1, rfl, pred_i o1, by omega, ?_⟩
    refine ⟨by show 0 ≤ sizeLine; decide, fun l hl => ⟨_, _, rfl, ?_⟩⟩
    have s1 : Same H (upd H l (.lst [])) := same_new hl
    refine ⟨by show 2 ≤ sizeLine; decide, fun t ht => ?_⟩
    have htl : t ≠ l := fun z => by rw [z, upd_same] at ht; cases ht
    have s2 : Same H (upd (upd H l (.lst [])) t (.tup [.int 0, .int 1])) := same_newer s1 ht
    refine ⟨t, rfl, ⟨_, SqT.of upd_same⟩, for_tup (K := K) (a := t) (xs := [V.int 0, V.int 1]) (fun i σ H2 => SamX l (upd (upd H l (.lst [])) t (.tup [.int 0, .int 1])) H2 ∧ ∃ o1 o2 o3 vs, H2 l = some (.lst vs) ∧ Paired (RgAt H2) vs (blO e f i) ∧
      σ = [some (.ref p), some (.ref q), some (.int (P2 (e.b - 1))), some (.ref l), o1, o2, o3]) ⟨SamX.refl _ _, none, none, none, [], ?_, .nil, rfl⟩ (fun i σ H2 _ z => SqT.of (z.1 _ _ htl upd_same)) ?_ ?_⟩
    · rw [upd_ne (Ne.symm htl)]; exact upd_same
    · rintro i x σ H2 hi ⟨sx, u1, u2, u3, us, hl2, hus, rfl⟩
      obtain ⟨rfl, hi01, hi2⟩ := two_at hi
      refine ⟨by show 2 ≤ sizeLine; decide, fun t2 ht2 => ?_⟩
      have htl2 : t2 ≠ l := fun z => by rw [z, hl2] at ht2; cases ht2
      refine ⟨t2, rfl, ⟨_, SqT.of upd_same⟩, for_tup (K := K) (a := t2) (xs := [V.int 0, V.int 1]) (fun j σ H3 => SamX l (upd H2 t2 (.tup [.int 0, .int 1])) H3 ∧ ∃ o2 o3 vs, H3 l = some (.lst vs) ∧ Paired (RgAt H3) vs (blO e f i ++ blI e f i j) ∧
        σ = [some (.ref p), some (.ref q), some (.int (P2 (e.b - 1))), some (.ref l), some (.int (i : Int)), o2, o3]) ⟨SamX.refl _ _, u2, u3, us, ?_, ?_, rfl⟩ (fun i σ H2 _ z => SqT.of (z.1 _ _ htl2 upd_same)) ?_ ?_⟩
      · exact same_new ht2 _ _ hl2
      · show Paired _ _ (blO e f i ++ [])
        rw [List.append_nil]
        exact sta_rg.same (same_new ht2) hus
      · rintro j x σ H3 hj ⟨sx2, w2, w3, ws, hl3, hws, rfl⟩
        obtain ⟨rfl, hj01, hj2⟩ := two_at hj
        have sAll : SamX l (upd (upd H l (.lst [])) t (.tup [.int 0, .int 1])) H3 := (sx.trans (SamX.of (same_new ht2))).trans sx2
        have hp3 : H3 p = some (.ins (CE K) dx (efs e)) := sAll _ _ (ne_of_none hp hl) (s2 _ _ hp)
        have hq3 : H3 q = some (.ins (CE K) dy (efs f)) := sAll _ _ (ne_of_none hq hl) (s2 _ _ hq)
        refine ⟨_, rfl, _, rfl, _, rfl, p, _, dx, _, _, rfl, hp3, T.cE, T.E_shift, efs_shift e, _, _, rfl, rfl, _, _, rfl, rfl, .inl (by omega), _, rfl, _, rfl, q, _, dy, _, _, rfl, hq3, T.cE, T.E_shift, efs_shift f, _, _, rfl, rfl, .inl (by omega), _, _, rfl, rfl, ?_⟩
        refine ⟨_, rfl, _, rfl, _, rfl, _, f, begins e f i j, j, rfl, ⟨q, dy, rfl, hq3⟩, of, hj01, _, rfl, ?_⟩
        by_cases c : isPlace f (begins e f i j) j = true
        · have eb : block e f i j = [(begins e f i j, begins e f i j + P2 (e.b - 1) - 1)] := by unfold block; rw [if_pos c]
          refine iteK c ⟨_, rfl, .inl ⟨rfl, _, SqL.of hl3⟩, _, rfl, _, rfl, _, rfl, _, _, rfl, rfl, _, _, rfl, rfl, by show 2 ≤ sizeLine; decide, fun m hm => ?_⟩
          have s4 : Same H3 (upd H3 m (.tup [.int (begins e f i j), .int (begins e f i j + P2 (e.b - 1) - 1)])) := same_new hm
          have hwl := PySem.Paired.length hws
          have hbl := bl_len e f i j (by omega) (by omega)
          refine ⟨l, _, _, rfl, rfl, s4 _ _ hl3, small (by omega), (sx2.trans (SamX.of s4)).upd, _, _, _, upd_same, ?_, rfl⟩
          rw [blI_succ, eb, ← List.append_assoc]
          exact sta_rg.paired (s4 _ _ hl3) (Paired.app (sta_rg.same s4 hws) (.cons ⟨m, rfl, upd_same⟩ .nil))
        · have eb : block e f i j = [] := by unfold block; rw [if_neg c]
          refine iteN c ⟨sx2, _, _, ws, hl3, ?_, rfl⟩
          rw [blI_succ, eb, List.append_nil]
          exact hws
      · rintro σ H3 ⟨sx2, w2, w3, ws, hl3, hws, rfl⟩
        refine ⟨(sx.trans (SamX.of (same_new ht2))).trans sx2, _, _, _, ws, hl3, ?_, rfl⟩
        rw [blO_succ]
        exact hws
    · rintro σ H2 ⟨sx, u1, u2, u3, us, hl2, hus, rfl⟩
      refine ⟨_, rfl, h _ _ ?_ ⟨l, us, rfl, hl2, ?_⟩⟩
      · intro a o ha
        exact sx _ _ (ne_of_none ha hl) (s2 _ _ ha)
      · rw [← blO_two]
        exact hus
end
end Fw



/-! Apart, in whole. -/
namespace Fw
open PySem PySem.Spec PyProof.Rows L2 Rw
def afs (l s p : Int) (al : Addr) : List (Str × V) := [("low", .int l), ("size", .int s), ("period", .int p), ("alike", .ref al)]
theorem afs_low (l s p : Int) (al : Addr) : (afs l s p al).lookup ("low" : Str) = some (.int l) := rfl
theorem afs_size (l s p : Int) (al : Addr) : (afs l s p al).lookup ("size" : Str) = some (.int s) := rfl
theorem afs_period (l s p : Int) (al : Addr) : (afs l s p al).lookup ("period" : Str) = some (.int p) := rfl
theorem afs_alike (l s p : Int) (al : Addr) : (afs l s p al).lookup ("alike" : Str) = some (.ref al) := rfl
def aLess (e f : Ef) : Ef := if f.b < e.b then f else e
def aMore (e f : Ef) : Ef := if f.b < e.b then e else f
theorem a_le (e f : Ef) : (aLess e f).b ≤ (aMore e f).b := by
  unfold aLess aMore
  split <;> omega
theorem a_ok {e f : Ef} (oe : e.Ok) (of : f.Ok) : (aLess e f).Ok ∧ (aMore e f).Ok := by
  unfold aLess aMore
  split
  · exact ⟨of, oe⟩
  · exact ⟨oe, of⟩
/-- the object of two effects e, f on k's values, e of no more bits than f -/
def ApAt (K : PySem.W.Frag) (H : Hp) (v : V) (k : Kd) (e f : Ef) : Prop := ∃ p dx al, v = .ref p ∧ H p = some (.ins (CA K) dx (afs (Rw.lo k) (P2 k.w) (P2 f.b) al)) ∧ RsAt H (.ref al) (places e f)
theorem ap_mono {K : PySem.W.Frag} {H H' : Hp} {v : V} {k : Kd} {e f : Ef} (s : Same H H') (h : ApAt K H v k e f) : ApAt K H' v k e f := by
  obtain ⟨p, dx, al, h1, h2, h3⟩ := h
  exact ⟨p, dx, al, h1, s _ _ h2, rs_mono s h3⟩
theorem ins_ne {H : Hp} {p q C D dx dy : Addr} {fs gs : List (Str × V)} (h1 : H p = some (.ins C dx fs)) (h2 : H q = some (.ins D dy gs)) (hl : fs.length ≠ gs.length) : p ≠ q := fun z => by
  rw [z, h2] at h1
  have := HO.ins.inj (Option.some.inj h1)
  exact hl (congrArg List.length this.2.2.symm)
theorem ins_lst {H : Hp} {p q C dx : Addr} {fs : List (Str × V)} {xs : List V} (h1 : H p = some (.ins C dx fs)) (h2 : H q = some (.lst xs)) : q ≠ p := fun z => by
  rw [z, h1] at h2
  cases h2
theorem rg_ins {H : Hp} {p C dx : Addr} {fs : List (Str × V)} {o : HO} (h : H p = some (.ins C dx fs)) {v : V} {r : Int × Int} (q : RgAt H v r) : RgAt (upd H p o) v r := by
  obtain ⟨a, e, ha⟩ := q
  refine ⟨a, e, ?_⟩
  rw [upd_ne (fun z => by rw [z, h] at ha; cases ha)]
  exact ha
theorem max_if (m a b : Int) : max 0 (min m b - a) = (if (if b < m then b else m) - a > 0 then (if b < m then b else m) - a else 0) := by
  by_cases h : b < m
  · rw [if_pos h]
    split <;> omega
  · rw [if_neg h]
    split <;> omega
section
variable {P : Program} {w : World} {K : PySem.W.Frag} {mg : Str → Option Value} {base : Heap}
def spApInit (K : PySem.W.Frag) : Sp := fun vs H Q _ => ∃ (p dx : Addr) (v u1 u2 : V) (k : Kd) (e f : Ef), vs = [.ref p, v, u1, u2] ∧ KiAt K H v k ∧ k.Ok ∧ EfAt K H u1 e ∧ EfAt K H u2 f ∧ e.Ok ∧ f.Ok ∧ H p = some (.ins (CA K) dx []) ∧
  ∀ al H', SamX p H H' → H' p = some (.ins (CA K) dx (afs (Rw.lo k) (P2 k.w) (P2 (aMore e f).b) al)) → RsAt H' (.ref al) (places (aLess e f) (aMore e f)) → Q .non H'
abbrev N_Apart_init : List Str := ["self", "kind", "one", "other"]
theorem sc_Apart_init : FnScope N_Apart_init ["self", "kind", "one", "other"] (defScope s_Apart_init) := ⟨rfl, rfl, rfl, by decide +kernel, rfl, by decide +kernel, by decide +kernel⟩
theorem k_Apart (T : Tx K mg) : C8.Mak P w K mg base 3 "Apart" (CA K) (spApInit K) [] := by
  have c_low_of : C8.Cal P w K mg base 1 "low_of" (spKi K fun k => .int (Rw.lo k)) [] := c_low_of T
  have c_size_of : C8.Cal P w K mg base 1 "size_of" (spKi K fun k => .int (P2 k.w)) [] := c_size_of T
  have c_places_alike : C8.Cal P w K mg base 2 "places_alike" (spPlaces K) [] := c_places_alike T
  refine T.mak 34 88 29 rfl rfl rfl sc_Apart_init ?_ (fun _ _ _ _ _ _ us hl => match us, hl with | [_, _, _, _], _ => rfl) ?_
  · rintro vs H Q E ⟨p, dx, v, u1, u2, k, e, f, rfl, _⟩; rfl
  · rintro cdv A outer s H vs Q E hr ⟨p, dx, v, u1, u2, k, e, f, rfl, hv, hk, hu1, hu2, oe, of, hp, h⟩
    obtain ⟨pk, dk, rfl, hpk⟩ := hv
    obtain ⟨p1, d1, rfl, hp1⟩ := hu1
    obtain ⟨p2, d2, rfl, hp2⟩ := hu2
    have nk : pk ≠ p := ins_ne hpk hp (by show 2 ≠ 0; decide)
    have n1 : p1 ≠ p := ins_ne hp1 hp (by show 4 ≠ 0; decide)
    have n2 : p2 ≠ p := ins_ne hp2 hp (by show 4 ≠ 0; decide)
    refine ⟨_, (pss_cons (ps_if (pt_cmpR op_gt (pe_fld (pv 2) rfl) (pe_fld (pv 3) rfl) (nomark _)) (pss_one (ps_par (i := 2) (j := 3) rfl sc_Apart_init.nd rfl rfl (by decide) rfl rfl (pa_cons (pv 3) (pa_cons (pv 2) pa_nil)) (by rfl))) pss_nil)
      (pss_cons (ps_fld (pv 0) (C8.pe_c c_low_of hr (by decide) rfl (pa_cons (pv 1) pa_nil)) rfl)
      (pss_cons (ps_fld (pv 0) (C8.pe_c c_size_of hr (by decide) rfl (pa_cons (pv 1) pa_nil)) rfl)
      (pss_cons (ps_fld (pv 0) (pe_op op_shl1 pe_int (pe_fld (pv 3) rfl)) rfl)
      (pss_one (ps_fld (pv 0) (C8.pe_c c_places_alike hr (by decide) rfl (pa_cons (pv 2) (pa_cons (pv 3) pa_nil))) rfl)))))), ?_⟩
    refine ⟨_, rfl, p1, _, d1, _, _, rfl, hp1, T.cE, T.E_bits, efs_bits e, _, rfl, p2, _, d2, _, _, rfl, hp2, T.cE, T.E_bits, efs_bits f, _, _, rfl, rfl, _, rfl, ?_⟩
    by_cases c : f.b < e.b
    · rw [decide_eq_true (by omega : (e.b : Int) > (f.b : Int))]
      have e1 : aLess e f = f := by unfold aLess; rw [if_pos c]
      have e2 : aMore e f = e := by unfold aMore; rw [if_pos c]
      rw [e1, e2] at h
      refine iteT ⟨_, rfl, _, rfl, _, _, rfl, ?_⟩
      refine ⟨_, rfl, _, k, rfl, ⟨pk, dk, rfl, hpk⟩, hk, _, rfl, p, CA K, dx, [], rfl, hp, T.cA, T.A_low, by show 0 < 1000; decide, ?_⟩
      refine ⟨_, rfl, _, k, rfl, ⟨pk, dk, rfl, by rw [upd_ne nk]; exact hpk⟩, hk, _, rfl, p, CA K, dx, _, rfl, upd_same, T.cA, T.A_size, by show 1 < 1000; decide, ?_⟩
      rw [upd_upd]
      refine ⟨_, rfl, p1, _, d1, _, _, rfl, by rw [upd_ne n1]; exact hp1, T.cE, T.E_bits, efs_bits e, e.b, rfl, rfl, by have := oe.bw; have := oe.w128; omega, _, rfl, p, CA K, dx, _, rfl, upd_same, T.cA, T.A_period, by show 2 < 1000; decide, ?_⟩
      rw [upd_upd]
      refine ⟨_, rfl, _, rfl, _, _, f, e, rfl, ⟨p2, d2, rfl, by rw [upd_ne n2]; exact hp2⟩, ⟨p1, d1, rfl, by rw [upd_ne n1]; exact hp1⟩, of, oe, fun x H' s' hx => ?_⟩
      obtain ⟨al, us, rfl, ha, hus⟩ := hx
      refine ⟨_, rfl, p, CA K, dx, _, rfl, s' _ _ upd_same, T.cA, T.A_alike, by show 3 < 1000; decide, ?_⟩
      have hpal : al ≠ p := ins_lst (s' _ _ upd_same) ha
      refine h al _ (((SamX.refl p H).upd.trans (SamX.of s')).upd) upd_same ⟨al, us, rfl, by rw [upd_ne hpal]; exact ha, L2.Paired.mapP hus fun v r => rg_ins (s' _ _ upd_same)⟩
    · rw [decide_eq_false (by omega : ¬ (e.b : Int) > (f.b : Int))]
      have e1 : aLess e f = e := by unfold aLess; rw [if_neg c]
      have e2 : aMore e f = f := by unfold aMore; rw [if_neg c]
      rw [e1, e2] at h
      refine iteF ⟨_, rfl, _, k, rfl, ⟨pk, dk, rfl, hpk⟩, hk, _, rfl, p, CA K, dx, [], rfl, hp, T.cA, T.A_low, by show 0 < 1000; decide, ?_⟩
      refine ⟨_, rfl, _, k, rfl, ⟨pk, dk, rfl, by rw [upd_ne nk]; exact hpk⟩, hk, _, rfl, p, CA K, dx, _, rfl, upd_same, T.cA, T.A_size, by show 1 < 1000; decide, ?_⟩
      rw [upd_upd]
      refine ⟨_, rfl, p2, _, d2, _, _, rfl, by rw [upd_ne n2]; exact hp2, T.cE, T.E_bits, efs_bits f, f.b, rfl, rfl, by have := of.bw; have := of.w128; omega, _, rfl, p, CA K, dx, _, rfl, upd_same, T.cA, T.A_period, by show 2 < 1000; decide, ?_⟩
      rw [upd_upd]
      refine ⟨_, rfl, _, rfl, _, _, e, f, rfl, ⟨p1, d1, rfl, by rw [upd_ne n1]; exact hp1⟩, ⟨p2, d2, rfl, by rw [upd_ne n2]; exact hp2⟩, oe, of, fun x H' s' hx => ?_⟩
      obtain ⟨al, us, rfl, ha, hus⟩ := hx
      refine ⟨_, rfl, p, CA K, dx, _, rfl, s' _ _ upd_same, T.cA, T.A_alike, by show 3 < 1000; decide, ?_⟩
      have hpal : al ≠ p := ins_lst (s' _ _ upd_same) ha
      refine h al _ (((SamX.refl p H).upd.trans (SamX.of s')).upd) upd_same ⟨al, us, rfl, by rw [upd_ne hpal]; exact ha, L2.Paired.mapP hus fun v r => rg_ins (s' _ _ upd_same)⟩
theorem make_apart {H : Hp} {k : Kd} {e f : Ef} {Q : Hp → Prop} {x dx : Addr} {v u1 u2 : V} (hx : H x = none) (hd : H dx = none) (_hne : dx ≠ x) (hv : KiAt K H v k) (hk : k.Ok) (h1 : EfAt K H u1 e) (h2 : EfAt K H u2 f) (oe : e.Ok) (of : f.Ok) (h : ∀ H', Same H H' → ApAt K H' (.ref x) k (aLess e f) (aMore e f) → Q H') :
    spApInit K [.ref x, v, u1, u2] (upd (upd H dx (.own x)) x (.ins (CA K) dx [])) (fun v H2 => v = .non ∧ Q H2) E0 := by
  have s : Same H (upd (upd H dx (.own x)) x (.ins (CA K) dx [])) := same_own (same_new hd) hx
  refine ⟨x, dx, v, u1, u2, k, e, f, rfl, ki_mono s hv, hk, ef_mono s h1, ef_mono s h2, oe, of, upd_same, fun al H' sx hp hr => ⟨rfl, ?_⟩⟩
  refine h H' (fun a o ha => ?_) ⟨x, dx, al, rfl, hp, hr⟩
  exact sx _ _ (ne_of_none ha hx) (s _ _ ha)
def spAp (K : PySem.W.Frag) (g : Kd → Ef → Ef → Int → Int) : Sp := fun vs H Q _ => ∃ (v : V) (k : Kd) (e f : Ef) (n : Int), vs = [v, .int n] ∧ ApAt K H v k e f ∧ k.Ok ∧ e.Ok ∧ f.Ok ∧ e.b ≤ f.b ∧ n.natAbs < 2 ^ 140 ∧ Q (.int (g k e f n)) H
abbrev N_Apart_alike_below : List Str := ["self", "n", "turns", "rest", "found", "first", "last"]
theorem sc_Apart_alike_below : FnScope N_Apart_alike_below ["self", "n"] (defScope s_Apart_alike_below) := ⟨rfl, rfl, rfl, by decide +kernel, rfl, by decide +kernel, by decide +kernel⟩
theorem m_Apart_alike_below (T : Tx K mg) : C8.Met P w K mg base 1 (CA K) "alike_below" (spAp K fun k e f n => alikeB (P2 f.b) (places e f) n) [] := by
  refine T.met 35 87 93 rfl rfl rfl sc_Apart_alike_below ?_ (fun _ _ _ _ _ _ us hl => match us, hl with | [_, _], _ => rfl) ?_
  · rintro vs H Q E ⟨v, k, e, f, n, rfl, _⟩; rfl
  · rintro cdv A outer s H vs Q E hr ⟨v, k, e, f, n, rfl, ⟨p, dx, al, rfl, hp, b, us, hb, hal, hus⟩, hk, oe, of, hef, hn, h⟩
    cases hb
    refine ⟨_, (pss_cons (ps_par3 (i := 2) (j := 3) (l := 4) rfl sc_Apart_alike_below.nd rfl rfl rfl (by decide) (by decide) (by decide) rfl rfl rfl (pa_cons (pe_op op_fdivW (pv 1) (pe_fld (pv 0) rfl)) (pa_cons (pe_op op_mod (pv 1) (pe_fld (pv 0) rfl)) (pa_cons pe_int pa_nil))) (by rfl))
      (pss_cons (ps_for PassesOwn.never rfl (pi_list (pe_fld (pv 0) rfl)) (pg_tup rfl (pgs_cons (pg_name (i := 5) sc_Apart_alike_below.nd rfl (Or.inl rfl)) (pgs_cons (pg_name (i := 6) sc_Apart_alike_below.nd rfl (Or.inl rfl)) pgs_nil)))
        (pss_one (ps_set (i := 4) sc_Apart_alike_below.nd rfl (Or.inl rfl) (pe_op op_add (pe_op op_add (pv 4) (pe_op op_mulW (pv 2) (pe_op op_add (pe_op op_sub (pv 6) (pv 5)) pe_int))) (pe_callB (call_max2 rfl) (by rfl) T.n_max boot_max_ (pa_cons pe_int (pa_cons (pe_op op_sub (pe_callB (call_min2 rfl) (by rfl) T.n_min boot_min_ (pa_cons (pv 3) (pa_cons (pe_op op_add (pv 6) pe_int) pa_nil))) (pv 5)) pa_nil)))))))
      (pss_one (ps_ret (pv 4))))), ?_⟩
    have o3 := of.w128
    have o2 := of.bw
    have hP : (P2 f.b).natAbs < 2 ^ 129 := P2_abs1 (by omega)
    refine ⟨_, rfl, _, rfl, p, _, dx, _, _, rfl, hp, T.cA, T.A_period, afs_period _ _ _ _, _, _, rfl, rfl, wide_div (P2_pos _) hP (by decide) (by decide), ?_⟩
    refine ⟨_, rfl, _, rfl, p, _, dx, _, _, rfl, hp, T.cA, T.A_period, afs_period _ _ _ _, _, _, rfl, rfl, P2_pos _, _, _, _, rfl, ?_⟩
    refine ⟨_, rfl, p, _, dx, _, _, rfl, hp, T.cA, T.A_alike, afs_alike _ _ _ _, al, rfl, ⟨_, SqL.of hal⟩, for_list (K := K) (a := al) (xs := us) (fun i σ H2 => H2 = H ∧ ∃ o1 o2, σ = [some (.ref p), some (.int n), some (.int (n / P2 f.b)), some (.int (n % P2 f.b)), some (.int (alikeB (P2 f.b) ((places e f).take i) n)), o1, o2]) ⟨rfl, none, none, rfl⟩ (fun i σ H2 _ z => by rw [z.1]; exact SqL.of hal) ?_ ?_⟩
    · rintro i x σ H2 hi ⟨rfl, o1, o2, rfl⟩
      obtain ⟨z, hz, q, rfl, hq⟩ := Paired.get hus hi
      have hin := places_in oe of hef z (List.mem_of_getElem? hz)
      refine ⟨q, _, rfl, SqT.of hq, rfl, _, _, rfl, _, _, rfl, rfl, ?_⟩
      have q1 : (n / P2 f.b).natAbs < 2 ^ 140 := by
        have h1 : (n / P2 f.b).natAbs ≤ n.natAbs := Int.natAbs_ediv_le_natAbs _ _
        omega
      have q2 : (z.2 - z.1 + 1).natAbs < 2 ^ 129 := by
        have := P2_abs' (n := f.b) (i := z.2 - z.1 + 1) (by omega) (by have := P2_pos f.b; omega) (by omega)
        exact this
      refine ⟨_, rfl, _, rfl, _, rfl, _, rfl, _, _, rfl, rfl, _, _, rfl, rfl, _, _, rfl, rfl, wide_mul q1 q2 (by decide) (by decide) (by decide), _, _, rfl, rfl, ?_⟩
      refine ⟨_, rfl, _, rfl, _, _, rfl, rfl, _, _, rfl, _, rfl, _, _, rfl, rfl, _, _, rfl, _, _, rfl, rfl, ?_⟩
      refine ⟨rfl, some (.int z.1), some (.int z.2), ?_⟩
      have e1 : alikeB (P2 f.b) ((places e f).take (i + 1)) n = alikeB (P2 f.b) ((places e f).take i) n + n / P2 f.b * (z.2 - z.1 + 1) + (if (if z.2 + 1 < n % P2 f.b then z.2 + 1 else n % P2 f.b) - z.1 > 0 then (if z.2 + 1 < n % P2 f.b then z.2 + 1 else n % P2 f.b) - z.1 else 0) := by
        unfold alikeB
        rw [List.take_add_one, hz, List.map_append, List.sum_append]
        simp only [Option.toList_some, List.map_cons, List.map_nil, List.sum_cons, List.sum_nil]
        rw [show below1 (P2 f.b) n z = n / P2 f.b * (z.2 - z.1 + 1) + max 0 (min (n % P2 f.b) (z.2 + 1) - z.1) from rfl, max_if, Int.add_zero, Int.add_assoc]
      rw [e1]
      rfl
    · rintro σ H2 ⟨rfl, o1, o2, rfl⟩
      rw [PySem.Paired.length hus, List.take_length]
      exact ⟨_, rfl, h⟩
/-- what count_below says -/
def cAp (k : Kd) (e f : Ef) (n : Int) : Int := countB (P2 f.b) (places e f) (Rw.lo k) n
theorem lo_abs {k : Kd} (hk : k.Ok) : (Rw.lo k).natAbs < 2 ^ 129 := by
  have h2 := hk.2
  have h1 := lo_cases k hk.1
  have hp := P2_pos (k.w - 1)
  refine P2_abs' (n := k.w - 1) (by omega) ?_ ?_ <;> (rcases h1.1 with ⟨_, e⟩ | ⟨_, e⟩ <;> omega)
theorem P140 {i : Int} (h : i.natAbs < 2 ^ 129) : i.natAbs < 2 ^ 140 := Nat.lt_trans h (by decide)
abbrev N_Apart_count_below : List Str := ["self", "n"]
theorem sc_Apart_count_below : FnScope N_Apart_count_below ["self", "n"] (defScope s_Apart_count_below) := ⟨rfl, rfl, rfl, by decide +kernel, rfl, by decide +kernel, by decide +kernel⟩
theorem m_Apart_count_below (T : Tx K mg) : C8.Met P w K mg base 2 (CA K) "count_below" (spAp K cAp) [] := by
  have m_Apart_alike_below : C8.Met P w K mg base 1 (CA K) "alike_below" (spAp K fun k e f n => alikeB (P2 f.b) (places e f) n) [] := m_Apart_alike_below T
  refine T.met 36 87 94 rfl rfl rfl sc_Apart_count_below ?_ (fun _ _ _ _ _ _ us hl => match us, hl with | [_, _], _ => rfl) ?_
  · rintro vs H Q E ⟨v, k, e, f, n, rfl, _⟩; rfl
  · rintro cdv A outer s H vs Q E hr ⟨v, k, e, f, n, rfl, hv, hk, oe, of, hef, hn, h⟩
    have hv2 := hv
    obtain ⟨p, dx, al, rfl, hp, hal⟩ := hv2
    refine ⟨_, (pss_one (ps_ret (pe_op op_add (pe_op op_sub (pe_op op_sub (pv 1) (pe_fld (pv 0) rfl)) (C8.pe_mt m_Apart_alike_below hr (by decide) (pv 0) (pa_cons (pv 1) pa_nil))) (C8.pe_mt m_Apart_alike_below hr (by decide) (pv 0) (pa_cons (pe_fld (pv 0) rfl) pa_nil))))), ?_⟩
    refine ⟨_, rfl, _, rfl, p, _, dx, _, _, rfl, hp, T.cA, T.A_low, afs_low _ _ _ _, _, _, rfl, rfl, ?_⟩
    refine ⟨_, rfl, p, dx, _, rfl, hp, rfl, _, rfl, _, k, e, f, n, rfl, hv, hk, oe, of, hef, hn, _, _, rfl, rfl, ?_⟩
    refine ⟨_, rfl, p, dx, _, rfl, hp, rfl, _, rfl, p, _, dx, _, _, rfl, hp, T.cA, T.A_low, afs_low _ _ _ _, _, k, e, f, _, rfl, hv, hk, oe, of, hef, P140 (lo_abs hk), _, _, rfl, rfl, h⟩
def spApT (K : PySem.W.Frag) : Sp := fun vs H Q _ => ∃ (v : V) (k : Kd) (e f : Ef), vs = [v] ∧ ApAt K H v k e f ∧ k.Ok ∧ e.Ok ∧ f.Ok ∧ e.b ≤ f.b ∧ Q (.int (cAp k e f (Rw.lo k + P2 k.w))) H
theorem in_abs {k : Kd} (hk : k.Ok) {n : Int} (h0 : Rw.lo k ≤ n) (h1 : n ≤ Rw.lo k + P2 k.w) : n.natAbs < 2 ^ 129 := by
  have h2 := hk.2
  have h3 := lo_cases k hk.1
  have hp := P2_pos (k.w - 1)
  refine P2_abs' (n := k.w) (by omega) ?_ ?_ <;> (rcases h3.1 with ⟨_, e⟩ | ⟨_, e⟩ <;> omega)
abbrev N_Apart_total : List Str := ["self"]
theorem sc_Apart_total : FnScope N_Apart_total ["self"] (defScope s_Apart_total) := ⟨rfl, rfl, rfl, by decide +kernel, rfl, by decide +kernel, by decide +kernel⟩
theorem m_Apart_total (T : Tx K mg) : C8.Met P w K mg base 3 (CA K) "total" (spApT K) [] := by
  have m_Apart_count_below : C8.Met P w K mg base 2 (CA K) "count_below" (spAp K cAp) [] := m_Apart_count_below T
  refine T.met 37 87 95 rfl rfl rfl sc_Apart_total ?_ (fun _ _ _ _ _ _ us hl => match us, hl with | [_], _ => rfl) ?_
  · rintro vs H Q E ⟨v, k, e, f, rfl, _⟩; rfl
  · rintro cdv A outer s H vs Q E hr ⟨v, k, e, f, rfl, hv, hk, oe, of, hef, h⟩
    have hv2 := hv
    obtain ⟨p, dx, al, rfl, hp, hal⟩ := hv2
    refine ⟨_, (pss_one (ps_ret (C8.pe_mt m_Apart_count_below hr (by decide) (pv 0) (pa_cons (pe_op op_add (pe_fld (pv 0) rfl) (pe_fld (pv 0) rfl)) pa_nil)))), ?_⟩
    refine ⟨_, rfl, p, dx, _, rfl, hp, rfl, _, rfl, p, _, dx, _, _, rfl, hp, T.cA, T.A_low, afs_low _ _ _ _, _, rfl, p, _, dx, _, _, rfl, hp, T.cA, T.A_size, afs_size _ _ _ _, _, _, rfl, rfl, _, k, e, f, _, rfl, hv, hk, oe, of, hef, P140 (in_abs hk (by have := P2_pos k.w; omega) (Int.le_refl _)), h⟩
def spApJ (K : PySem.W.Frag) : Sp := fun vs H Q _ => ∃ (v : V) (k : Kd) (e f : Ef) (j : Int), vs = [v, .int j] ∧ ApAt K H v k e f ∧ k.Ok ∧ e.Ok ∧ f.Ok ∧ e.b ≤ f.b ∧ 0 ≤ j ∧ j < cAp k e f (Rw.lo k + P2 k.w) ∧ ∀ x, Rw.lo k ≤ x → x ≤ Rw.hi k → IsAt (cAp k e f) j x → Q (.int x) H
theorem cAp_cnt {k : Kd} {e f : Ef} (oe : e.Ok) (of : f.Ok) (h : e.b ≤ f.b) : Cnt (Rw.lo k) (fun n => e.fn n ≠ f.fn n) (cAp k e f) := cnt_apart oe of h _
abbrev N_Apart_at : List Str := ["self", "j", "first", "last", "half"]
theorem sc_Apart_at : FnScope N_Apart_at ["self", "j"] (defScope s_Apart_at) := ⟨rfl, rfl, rfl, by decide +kernel, rfl, by decide +kernel, by decide +kernel⟩
theorem m_Apart_at (T : Tx K mg) : C8.Met P w K mg base 3 (CA K) "at" (spApJ K) [] := by
  have m_Apart_count_below : C8.Met P w K mg base 2 (CA K) "count_below" (spAp K cAp) [] := m_Apart_count_below T
  refine T.met 38 87 96 rfl rfl rfl sc_Apart_at ?_ (fun _ _ _ _ _ _ us hl => match us, hl with | [_, _], _ => rfl) ?_
  · rintro vs H Q E ⟨v, k, e, f, j, rfl, _⟩; rfl
  · rintro cdv A outer s H vs Q E hr ⟨v, k, e, f, j, rfl, hv, hk, oe, of, hef, hj0, hj1, h⟩
    have hv2 := hv
    obtain ⟨p, dx, al, rfl, hp, hal⟩ := hv2
    have hc := cAp_cnt (k := k) oe of hef
    refine ⟨_, (pss_cons (ps_par (i := 2) (j := 3) rfl sc_Apart_at.nd rfl rfl (by decide) rfl rfl (pa_cons (pe_fld (pv 0) rfl) (pa_cons (pe_op op_sub (pe_op op_add (pe_fld (pv 0) rfl) (pe_fld (pv 0) rfl)) pe_int) pa_nil)) (by rfl))
      (pss_cons (ps_while PassesOwn.never (pt_cmpR op_lt (pv 2) (pv 3) (nomark _))
        (pss_cons (ps_set (i := 4) sc_Apart_at.nd rfl (Or.inl rfl) (pe_op op_fdiv (pe_op op_add (pv 2) (pv 3)) pe_int))
          (pss_one (ps_if (pt_cmpR op_gt (C8.pe_mt m_Apart_count_below hr (by decide) (pv 0) (pa_cons (pe_op op_add (pv 4) pe_int) pa_nil)) (pv 1) (nomark _)) (pss_one (ps_set (i := 3) sc_Apart_at.nd rfl (Or.inl rfl) (pv 4))) (pss_one (ps_set (i := 2) sc_Apart_at.nd rfl (Or.inl rfl) (pe_op op_add (pv 4) pe_int)))))))
      (pss_one (ps_ret (pv 2))))), ?_⟩
    refine ⟨_, rfl, p, _, dx, _, _, rfl, hp, T.cA, T.A_low, afs_low _ _ _ _, ?_⟩
    refine ⟨_, rfl, p, _, dx, _, _, rfl, hp, T.cA, T.A_low, afs_low _ _ _ _, _, rfl, p, _, dx, _, _, rfl, hp, T.cA, T.A_size, afs_size _ _ _ _, _, _, rfl, rfl, _, _, rfl, rfl, _, _, rfl, ?_⟩
    refine ⟨fun m σ H2 => H2 = H ∧ ∃ (a b : Int) (o : Option V), Rw.lo k ≤ a ∧ a ≤ b ∧ b ≤ Rw.hi k ∧ cAp k e f a ≤ j ∧ j < cAp k e f (b + 1) ∧ m = (b - a).toNat ∧ σ = [some (.ref p), some (.int j), some (.int a), some (.int b), o], ⟨_, rfl, Rw.lo k, Rw.hi k, none, Int.le_refl _, ?_, Int.le_refl _, ?_, ?_, rfl, rfl⟩, ?_⟩
    · unfold Rw.hi; have := P2_pos k.w; omega
    · rw [hc.low]; exact hj0
    · unfold Rw.hi
      rw [show Rw.lo k + P2 k.w - 1 + 1 = Rw.lo k + P2 k.w by omega]
      exact hj1
    · rintro m σ H2 ⟨rfl, a, b, o, h1, h2, h3, h4, h5, rfl, rfl⟩
      refine ⟨_, rfl, _, rfl, _, _, rfl, rfl, _, rfl, ?_⟩
      by_cases c : a < b
      · rw [decide_eq_true c]
        refine iteT ⟨fun σ' H' => H' = H2 ∧ ∃ (a' b' : Int) (o : Option V), Rw.lo k ≤ a' ∧ a' ≤ b' ∧ b' ≤ Rw.hi k ∧ cAp k e f a' ≤ j ∧ j < cAp k e f (b' + 1) ∧ (b' - a').toNat < (b - a).toNat ∧ σ' = [some (.ref p), some (.int j), some (.int a'), some (.int b'), o], fun σ' H' z => ?_, ?_⟩
        · obtain ⟨z0, a', b', o', z1, z2, z3, z4, z5, z6, z7⟩ := z
          exact ⟨_, z6, z0, a', b', o', z1, z2, z3, z4, z5, rfl, z7⟩
        · refine ⟨_, rfl, _, rfl, _, _, rfl, rfl, _, _, rfl, rfl, ⟨by decide, by decide⟩, ?_⟩
          have g1 : a ≤ (a + b) / 2 := by omega
          have g2 : (a + b) / 2 < b := by omega
          refine ⟨_, rfl, p, dx, _, rfl, hp, rfl, _, rfl, _, _, rfl, rfl, _, k, e, f, _, rfl, hv, hk, oe, of, hef, P140 (in_abs hk (by omega) (by unfold Rw.hi at h3; omega)), _, rfl, _, _, rfl, rfl, _, rfl, ?_⟩
          by_cases c2 : cAp k e f ((a + b) / 2 + 1) > j
          · rw [decide_eq_true c2]
            exact iteT ⟨_, rfl, rfl, a, (a + b) / 2, _, h1, g1, by omega, h4, c2, by omega, rfl⟩
          · rw [decide_eq_false c2]
            exact iteF ⟨_, rfl, _, _, rfl, rfl, rfl, (a + b) / 2 + 1, b, _, by omega, by omega, h3, by omega, h5, by omega, rfl⟩
      · rw [decide_eq_false c]
        have : a = b := by omega
        subst this
        exact iteF ⟨_, rfl, h a h1 h3 (hc.at_of h4 h5)⟩
end
end Fw



/-! Apart of two rows; the shortest row for a kind's values. -/
namespace Fw
open PySem PySem.Spec PyProof.Rows L2 Rw
def cA2 (k : Kd) (ks js : List Kd) (n : Int) : Int := cAp k (aLess (effOf (k :: ks)) (effOf (k :: js))) (aMore (effOf (k :: ks)) (effOf (k :: js))) n
/-- the list that shortest_for gives -/
def kdBefore (c d : Kd) : Prop := c.w < d.w ∨ (c.w = d.w ∧ c.s = false ∧ d.s = true)
inductive Sf (k : Kd) (e : Ef) : List Kd → Prop
  | one (c : Kd) (hc : c.Ok) (h : (effOf [k, c]).parts = e.parts) (hb : ∀ d : Kd, d.Ok → kdBefore d c → (effOf [k, d]).parts ≠ e.parts) : Sf k e [c]
  | row (h : ∀ d : Kd, d.Ok → (effOf [k, d]).parts ≠ e.parts) : Sf k e e.row
theorem kd_tri (c d : Kd) : c = d ∨ kdBefore c d ∨ kdBefore d c := by
  obtain ⟨a, s⟩ := c
  obtain ⟨b, t⟩ := d
  unfold kdBefore
  rcases Nat.lt_trichotomy a b with h | h | h
  · exact .inr (.inl (.inl h))
  · subst h
    cases s <;> cases t <;> simp
  · exact .inr (.inr (.inl h))
theorem Sf.same {k : Kd} {e : Ef} {l m : List Kd} (h : Sf k e l) (g : Sf k e m) : l = m := by
  cases h with
  | one c hc hp hb =>
    cases g with
    | one d hd hq hb2 =>
      rcases kd_tri c d with z | z | z
      · rw [z]
      · exact absurd hp (hb2 c hc z)
      · exact absurd hq (hb d hd z)
    | row hn => exact absurd hp (hn c hc)
  | row hn =>
    cases g with
    | one d hd hq hb2 => exact absurd hq (hn d hd)
    | row _ => rfl
section
variable {P : Program} {w : World} {K : PySem.W.Frag} {mg : Str → Option Value} {base : Heap}
def spApOf (K : PySem.W.Frag) : Sp := fun vs H Q _ => ∃ (v u1 u2 : V) (k : Kd) (ks js : List Kd), vs = [v, u1, u2] ∧ KiAt K H v k ∧ k.Ok ∧ KsAt K H u1 ks ∧ RowOk ks ∧ KsAt K H u2 js ∧ RowOk js ∧
  ∀ x H', Same H H' → ApAt K H' x k (aLess (effOf (k :: ks)) (effOf (k :: js))) (aMore (effOf (k :: ks)) (effOf (k :: js))) → Q x H'
abbrev N_apart_of : List Str := ["kind", "kinds", "others", "one"]
theorem sc_apart_of : FnScope N_apart_of ["kind", "kinds", "others"] (defScope s_apart_of) := ⟨rfl, rfl, rfl, by decide +kernel, rfl, by decide +kernel, by decide +kernel⟩
theorem c_apart_of (T : Tx K mg) : C8.Cal P w K mg base 5 "apart_of" (spApOf K) [] := by
  have c_effect_for : C8.Cal P w K mg base 4 "effect_for" (spEfFor K) [] := c_effect_for T
  have c_check_row : C8.Cal P w K mg base 1 "check_row" (spRow K) [] := c_check_row T
  have k_Apart : C8.Mak P w K mg base 3 "Apart" (CA K) (spApInit K) [] := k_Apart T
  refine T.cal 39 30 rfl rfl sc_apart_of ?_ (fun _ _ _ _ _ _ us hl => match us, hl with | [_, _, _], _ => rfl) ?_
  · rintro vs H Q E ⟨v, u1, u2, k, ks, js, rfl, _⟩; rfl
  · rintro cdv A outer s H vs Q E hr ⟨v, u1, u2, k, ks, js, rfl, hv, hk, h1, hks, h2, hjs, h⟩
    refine ⟨_, (pss_cons (ps_set (i := 3) sc_apart_of.nd rfl (Or.inl rfl) (C8.pe_c c_effect_for hr (by decide) rfl (pa_cons (pv 0) (pa_cons (pv 1) pa_nil))))
      (pss_cons (ps_expr (C8.pe_c c_check_row hr (by decide) rfl (pa_cons pe_str (pa_cons (pv 2) pa_nil))))
      (pss_one (ps_ret (C8.pe_mk k_Apart hr (by decide) rfl (pa_cons (pv 0) (pa_cons (pv 3) (pa_cons (C8.pe_c c_effect_for hr (by decide) rfl (pa_cons (pv 0) (pa_cons (pv 2) pa_nil))) pa_nil)))))))), ?_⟩
    refine ⟨_, rfl, _, rfl, v, u1, k, ks, rfl, hv, hk, h1, hks, fun x H1 s1 hx => ?_⟩
    refine ⟨_, rfl, _, u2, js, rfl, ks_mono s1 h2, hjs, fun H2 s2 => ?_⟩
    have s12 := s1.trans s2
    refine ⟨_, rfl, _, rfl, _, rfl, _, rfl, v, u2, k, js, rfl, ki_mono s12 hv, hk, ks_mono s12 h2, hjs, fun y H3 s3 hy => ?_⟩
    have s13 := s12.trans s3
    intro z dz hz hdz hne
    refine make_apart hz hdz hne (ki_mono s13 hv) hk (ef_mono (s2.trans s3) hx) hy (eff_kd hk hks) (eff_kd hk hjs) fun H4 s4 hap => ?_
    exact h _ _ (s13.trans s4) hap
def spApTot (K : PySem.W.Frag) : Sp := fun vs H Q _ => ∃ (v u1 u2 : V) (k : Kd) (ks js : List Kd), vs = [v, u1, u2] ∧ KiAt K H v k ∧ k.Ok ∧ KsAt K H u1 ks ∧ RowOk ks ∧ KsAt K H u2 js ∧ RowOk js ∧
  ∀ H', Same H H' → Q (.int (cA2 k ks js (Rw.lo k + P2 k.w))) H'
abbrev N_apart_total : List Str := ["kind", "kinds", "others"]
theorem sc_apart_total : FnScope N_apart_total ["kind", "kinds", "others"] (defScope s_apart_total) := ⟨rfl, rfl, rfl, by decide +kernel, rfl, by decide +kernel, by decide +kernel⟩
theorem c_apart_total (T : Tx K mg) : C8.Cal P w K mg base 6 "apart_total" (spApTot K) [] := by
  have c_apart_of : C8.Cal P w K mg base 5 "apart_of" (spApOf K) [] := c_apart_of T
  have m_Apart_total : C8.Met P w K mg base 3 (CA K) "total" (spApT K) [] := m_Apart_total T
  refine T.cal 40 31 rfl rfl sc_apart_total ?_ (fun _ _ _ _ _ _ us hl => match us, hl with | [_, _, _], _ => rfl) ?_
  · rintro vs H Q E ⟨v, u1, u2, k, ks, js, rfl, _⟩; rfl
  · rintro cdv A outer s H vs Q E hr ⟨v, u1, u2, k, ks, js, rfl, hv, hk, h1, hks, h2, hjs, h⟩
    refine ⟨_, (pss_one (ps_ret (C8.pe_mt0 m_Apart_total hr (by decide) (C8.pe_c c_apart_of hr (by decide) rfl (pa_cons (pv 0) (pa_cons (pv 1) (pa_cons (pv 2) pa_nil))))))), ?_⟩
    refine ⟨_, rfl, _, rfl, _, rfl, v, u1, u2, k, ks, js, rfl, hv, hk, h1, hks, h2, hjs, fun x H1 s1 hx => ?_⟩
    have hx2 := hx
    obtain ⟨p, dx, al, rfl, hp, hal⟩ := hx2
    obtain ⟨o1, o2⟩ := a_ok (eff_kd hk hks) (eff_kd hk hjs)
    exact ⟨p, dx, _, rfl, hp, rfl, _, k, _, _, rfl, hx, hk, o1, o2, a_le _ _, h _ s1⟩
def spApAt (K : PySem.W.Frag) : Sp := fun vs H Q _ => ∃ (v u1 u2 : V) (k : Kd) (ks js : List Kd) (j : Int), vs = [v, u1, u2, .int j] ∧ KiAt K H v k ∧ k.Ok ∧ KsAt K H u1 ks ∧ RowOk ks ∧ KsAt K H u2 js ∧ RowOk js ∧ 0 ≤ j ∧ j < cA2 k ks js (Rw.lo k + P2 k.w) ∧
  ∀ x H', Same H H' → Rw.lo k ≤ x → x ≤ Rw.hi k → IsAt (cA2 k ks js) j x → Q (.int x) H'
abbrev N_apart_at : List Str := ["kind", "kinds", "others", "j", "found"]
theorem sc_apart_at : FnScope N_apart_at ["kind", "kinds", "others", "j"] (defScope s_apart_at) := ⟨rfl, rfl, rfl, by decide +kernel, rfl, by decide +kernel, by decide +kernel⟩
theorem c_apart_at (T : Tx K mg) : C8.Cal P w K mg base 6 "apart_at" (spApAt K) [] := by
  have c_apart_of : C8.Cal P w K mg base 5 "apart_of" (spApOf K) [] := c_apart_of T
  have c_check_between : C8.Cal P w K mg base 3 "check_between" spCkBet [] := c_check_between T
  have m_Apart_total : C8.Met P w K mg base 3 (CA K) "total" (spApT K) [] := m_Apart_total T
  have m_Apart_at : C8.Met P w K mg base 3 (CA K) "at" (spApJ K) [] := m_Apart_at T
  refine T.cal 41 32 rfl rfl sc_apart_at ?_ (fun _ _ _ _ _ _ us hl => match us, hl with | [_, _, _, _], _ => rfl) ?_
  · rintro vs H Q E ⟨v, u1, u2, k, ks, js, j, rfl, _⟩; rfl
  · rintro cdv A outer s H vs Q E hr ⟨v, u1, u2, k, ks, js, j, rfl, hv, hk, h1, hks, h2, hjs, hj0, hj1, h⟩
    refine ⟨_, (pss_cons (ps_set (i := 4) sc_apart_at.nd rfl (Or.inl rfl) (C8.pe_c c_apart_of hr (by decide) rfl (pa_cons (pv 0) (pa_cons (pv 1) (pa_cons (pv 2) pa_nil)))))
      (pss_cons (ps_expr (C8.pe_c c_check_between hr (by decide) rfl (pa_cons pe_str (pa_cons (pv 3) (pa_cons pe_int (pa_cons (pe_op op_sub (C8.pe_mt0 m_Apart_total hr (by decide) (pv 4)) pe_int) pa_nil))))))
      (pss_one (ps_ret (C8.pe_mt m_Apart_at hr (by decide) (pv 4) (pa_cons (pv 3) pa_nil)))))), ?_⟩
    refine ⟨_, rfl, _, rfl, _, rfl, v, u1, u2, k, ks, js, rfl, hv, hk, h1, hks, h2, hjs, fun x H1 s1 hx => ?_⟩
    have hx2 := hx
    obtain ⟨p, dx, al, rfl, hp, hal⟩ := hx2
    obtain ⟨o1, o2⟩ := a_ok (eff_kd hk hks) (eff_kd hk hjs)
    refine ⟨_, rfl, _, rfl, p, dx, _, rfl, hp, rfl, _, k, _, _, rfl, hx, hk, o1, o2, a_le _ _, _, _, rfl, rfl, _, _, _, _, rfl, hj0, Int.le_sub_one_of_lt hj1, ?_⟩
    exact ⟨_, rfl, p, dx, _, rfl, hp, rfl, _, rfl, _, k, _, _, j, rfl, hx, hk, o1, o2, a_le _ _, hj0, hj1, fun y y0 y1 hy => h y _ s1 y0 y1 hy⟩
def spSF (K : PySem.W.Frag) : Sp := fun vs H Q _ => ∃ (v u : V) (k : Kd) (ks : List Kd), vs = [v, u] ∧ KiAt K H v k ∧ k.Ok ∧ KsAt K H u ks ∧ RowOk ks ∧ ∀ x H' own, Same H H' → Sf k (effOf (k :: ks)) own → KsAt K H' x own → Q x H'
theorem two_bl {j : Nat} {x : V} (h : [V.bl false, V.bl true][j]? = some x) : x = .bl (j == 1) ∧ j < 2 := by
  match j, h with
  | 0, h => cases h; exact ⟨rfl, by decide⟩
  | 1, h => cases h; exact ⟨rfl, by decide⟩
abbrev N_shortest_for : List Str := ["kind", "kinds", "wanted", "bits", "is_signed"]
theorem sc_shortest_for : FnScope N_shortest_for ["kind", "kinds"] (defScope s_shortest_for) := ⟨rfl, rfl, rfl, by decide +kernel, rfl, by decide +kernel, by decide +kernel⟩
theorem c_shortest_for (T : Tx K mg) : C8.Cal P w K mg base 6 "shortest_for" (spSF K) [] := by
  have c_effect_for : C8.Cal P w K mg base 4 "effect_for" (spEfFor K) [] := c_effect_for T
  have c_effect_of : C8.Cal P w K mg base 3 "effect_of" (spEfOf K) [] := c_effect_of T
  have k_Kind : C8.Mak P w K mg base 3 "Kind" (CK K) (spKiInit K) [] := k_Kind T
  have m_Effect_parts : C8.Met P w K mg base 1 (CE K) "parts" (spEf K fun H Q e => rNew2 H Q ((e.b : Int), e.sh)) [] := m_Effect_parts T
  have m_Effect_row : C8.Met P w K mg base 5 (CE K) "row" (spEf K fun H Q e => ∀ v H', Same H H' → KsAt K H' v e.row → Q v H') [] := m_Effect_row T
  refine T.cal 42 33 rfl rfl sc_shortest_for ?_ (fun _ _ _ _ _ _ us hl => match us, hl with | [_, _], _ => rfl) ?_
  · rintro vs H Q E ⟨v, u, k, ks, rfl, _⟩; rfl
  · rintro cdv A outer s H vs Q E hr ⟨v, u, k, ks, rfl, hv, hk, hu, hro, h⟩
    refine ⟨_, (pss_cons (ps_set (i := 2) sc_shortest_for.nd rfl (Or.inl rfl) (C8.pe_c c_effect_for hr (by decide) rfl (pa_cons (pv 0) (pa_cons (pv 1) pa_nil))))
      (pss_cons (ps_for PassesOwn.never rfl (pi_range2 rfl T.n_range (pa_cons pe_int (pa_cons (pe_op op_add (C8.pe_gc rfl T.MOST_BITS) pe_int) pa_nil))) (pg_name (i := 3) sc_shortest_for.nd rfl (Or.inl rfl))
        (pss_one (ps_for PassesOwn.never rfl (pi_tup (pe_tup (pa_cons pe_bl (pa_cons pe_bl pa_nil)))) (pg_name (i := 4) sc_shortest_for.nd rfl (Or.inl rfl))
            (pss_one (ps_if (pt_cmpR (op_eqD hr.units) (C8.pe_mt0 m_Effect_parts hr (by decide) (C8.pe_c c_effect_of hr (by decide) rfl (pa_cons (pe_lst (pa_cons (pv 0) (pa_cons (C8.pe_mk k_Kind hr (by decide) rfl (pa_cons (pv 3) (pa_cons (pv 4) pa_nil))) pa_nil))) pa_nil))) (C8.pe_mt0 m_Effect_parts hr (by decide) (pv 2)) (nomark _)) (pss_one (ps_ret (pe_lst (pa_cons (C8.pe_mk k_Kind hr (by decide) rfl (pa_cons (pv 3) (pa_cons (pv 4) pa_nil))) pa_nil)))) pss_nil)))))
      (pss_one (ps_ret (C8.pe_mt0 m_Effect_row hr (by decide) (pv 2)))))), ?_⟩
    refine ⟨_, rfl, _, rfl, v, u, k, ks, rfl, hv, hk, hu, hro, fun x H1 s1 hx => ?_⟩
    have hx2 := hx
    obtain ⟨p, dx, rfl, hp⟩ := hx2
    have ho := eff_kd hk hro
    refine ⟨_, _, rfl, rfl, _, _, rfl, ⟨by decide, by decide, by decide, by decide⟩, ?_⟩
    refine for_it (walk_range (lo := 1) (n := 128)) (fun i σ H2 => Same H1 H2 ∧ (∀ c : Kd, c.Ok → c.w ≤ i → (effOf [k, c]).parts ≠ (effOf (k :: ks)).parts) ∧ ∃ o1 o2, σ = [some v, some u, some (.ref p), o1, o2]) ⟨Same.refl _, fun c hc z => absurd z (by have := hc.1; omega), none, none, rfl⟩ (fun _ _ _ _ _ => trivial) ?_ ?_
    · rintro i x σ H3 H2 hi ⟨s2, hno, o1, o2, rfl⟩ ⟨rfl, hxi⟩
      have hxi2 : x = V.int ((i + 1 : Nat) : Int) := hxi.trans (congrArg V.int (by omega))
      subst hxi2
      refine ⟨by show 2 ≤ sizeLine; decide, fun t ht => ?_⟩
      have s3 : Same H1 (upd H2 t (.tup [.bl false, .bl true])) := same_newer s2 ht
      refine ⟨t, rfl, ⟨_, SqT.of upd_same⟩, for_tup (K := K) (a := t) (xs := [V.bl false, V.bl true]) (fun j σ H4 => Same (upd H2 t (.tup [.bl false, .bl true])) H4 ∧ (1 ≤ j → (effOf [k, ⟨i + 1, false⟩]).parts ≠ (effOf (k :: ks)).parts) ∧ (2 ≤ j → (effOf [k, ⟨i + 1, true⟩]).parts ≠ (effOf (k :: ks)).parts) ∧
        ∃ o2, σ = [some v, some u, some (.ref p), some (.int ((i + 1 : Nat) : Int)), o2]) ⟨Same.refl _, by omega, by omega, o2, rfl⟩ (fun j σ H4 _ z => SqT.of (z.1 _ _ upd_same)) ?_ ?_⟩
      · rintro j x σ H4 hj ⟨s4, n1, n2, o2, rfl⟩
        obtain ⟨rfl, hj2⟩ := two_bl hj
        have s14 := s3.trans s4
        have hcok : Kd.Ok ⟨i + 1, j == 1⟩ := ⟨by show 1 ≤ i + 1; omega, by show i + 1 ≤ 128; omega⟩
        refine ⟨_, rfl, _, rfl, _, rfl, ?_⟩
        intro y dy hy hdy hne
        refine make_kind (k := ⟨i + 1, j == 1⟩) hy hdy hne hcok fun H5 s5 hky => ?_
        refine ⟨by show 2 ≤ sizeLine; decide, fun l hl => ?_⟩
        have s6 : Same H5 (upd H5 l (.lst [v, .ref y])) := same_new hl
        have s16 := (s14.trans s5).trans s6
        have s06 := s1.trans s16
        refine ⟨_, [k, ⟨i + 1, j == 1⟩], rfl, ⟨l, _, rfl, upd_same, .cons (ki_mono s06 hv) (.cons (ki_mono s6 hky) .nil)⟩, by simp, ?_, by show 2 ≤ 1000; decide, fun z H7 s7 hz => ?_⟩
        · intro c hc
          simp at hc
          rcases hc with rfl | rfl
          · exact hk
          · exact hcok
        have oz : (effOf [k, ⟨i + 1, j == 1⟩]).Ok := effOf_ok (by simp) (by
          intro c hc
          simp at hc
          rcases hc with rfl | rfl
          · exact hk
          · exact hcok)
        have hz2 := hz
        obtain ⟨q, dq, rfl, hq⟩ := hz2
        refine ⟨q, dq, _, rfl, hq, rfl, _, _, rfl, hz, oz, fun t1 H8 s8 ht1 => ?_⟩
        have s18 := (s16.trans s7).trans s8
        refine ⟨_, rfl, p, dx, _, rfl, s18 _ _ hp, rfl, _, _, rfl, ef_mono s18 hx, ho, fun t2 H9 s9 ht2 => ?_⟩
        refine ⟨_, _, dp_rg (RgAt.mono _ _ _ _ s9 ht1), dp_rg ht2, shaped_pD _, shaped_pD _, _, rfl, ?_⟩
        rw [eqv_pD, parts_dec]
        have s19 := s18.trans s9
        by_cases c : (effOf [k, ⟨i + 1, j == 1⟩]).parts = (effOf (k :: ks)).parts
        · rw [decide_eq_true c]
          refine iteT ⟨_, rfl, _, rfl, ?_⟩
          intro y2 dy2 hy2 hdy2 hne2
          refine make_kind (k := ⟨i + 1, j == 1⟩) hy2 hdy2 hne2 hcok fun H10 s10 hky2 => ⟨by show 1 ≤ sizeLine; decide, fun l2 hl2 => ?_⟩
          refine h _ _ _ (s1.trans ((s19.trans s10).trans (same_new hl2))) (Sf.one _ hcok c ?_) ⟨l2, _, rfl, upd_same, .cons (ki_mono (same_new hl2) hky2) .nil⟩
          intro d hd hb
          rcases hb with hb | ⟨hb1, hb2, hb3⟩
          · exact hno d hd (by show d.w ≤ i; have : d.w < i + 1 := hb; omega)
          · have hj1 : j = 1 := by simpa using hb3
            have ed : d = ⟨i + 1, false⟩ := by
              obtain ⟨a, b⟩ := d
              simp at hb1 hb2
              rw [hb1, hb2]
            rw [ed]
            exact n1 (by omega)
        · rw [decide_eq_false c]
          have sq : Same (upd H2 t (.tup [.bl false, .bl true])) H9 := ((((s4.trans s5).trans s6).trans s7).trans s8).trans s9
          refine iteF ⟨sq, fun _ => ?_, fun z => ?_, _, rfl⟩
          · match j, c, n1 with
            | 0, c, _ => exact c
            | j + 1, _, n1 => exact n1 (by omega)
          · have : j = 1 := by omega
            subst this
            exact c
      · rintro σ H4 ⟨s4, n1, n2, o2, rfl⟩
        refine ⟨s3.trans s4, fun c hc hw => ?_, _, _, rfl⟩
        by_cases e1 : c.w ≤ i
        · exact hno c hc e1
        · obtain ⟨a, b⟩ := c
          have e2 : a = i + 1 := by simp at hw e1; omega
          subst e2
          cases b with
          | false => exact n1 (by decide)
          | true => exact n2 (by decide)
    · rintro σ H2 ⟨s2, hno, o1, o2, rfl⟩
      refine ⟨_, rfl, p, dx, _, rfl, s2 _ _ hp, rfl, _, _, rfl, ef_mono s2 hx, ho, fun y H3 s3 hy => ?_⟩
      exact h _ _ _ ((s1.trans s2).trans s3) (Sf.row fun d hd => hno d hd hd.2) hy
end
end Fw



/-! The law's helpers. -/
namespace Fw
open PySem PySem.Spec PyProof.Rows L2 Rw
/-- a source of numbers -/
def SrcAt (H : Hp) (S : Addr) : Prop := ∃ a b c : Int, H S = some (.lst [.int a, .int b, .int c])
theorem src_ne_o {H : Hp} {S p : Addr} {o : HO} (h : SrcAt H S) (hp : H p = some o) (hn : ∀ xs, o ≠ .lst xs) : p ≠ S := fun z => by
  obtain ⟨a, b, c, e⟩ := h
  rw [z, e] at hp
  exact hn _ (Option.some.inj hp).symm
theorem src_ne_l {H : Hp} {S p : Addr} {us : List V} (h : SrcAt H S) (hp : H p = some (.lst us)) (hn : us.length ≠ 3) : p ≠ S := fun z => by
  obtain ⟨a, b, c, e⟩ := h
  rw [z, e] at hp
  have := HO.lst.inj (Option.some.inj hp)
  rw [← this] at hn
  exact hn rfl
/-- what a source does not touch -/
structure Ref {α : Type} (R : Hp → V → α → Prop) : Prop where
  sta : Sta R
  ref : ∀ H v x, R H v x → ∃ p, v = .ref p
  keep : ∀ H H' S v x, SrcAt H S → SamX S H H' → R H v x → R H' v x
theorem ref_ki {K : PySem.W.Frag} : Ref (KiAt K) := ⟨sta_ki, fun _ _ _ ⟨p, _, e, _⟩ => ⟨p, e⟩, fun H H' S v x h s ⟨p, dx, e, hp⟩ => ⟨p, dx, e, s _ _ (src_ne_o h hp (fun _ z => by cases z)) hp⟩⟩
theorem ref_sh : Ref ShAt := ⟨sta_sh, fun _ _ _ ⟨p, e, _⟩ => ⟨p, e⟩, fun H H' S v x h s ⟨p, e, hp⟩ => ⟨p, e, s _ _ (src_ne_o h hp (fun _ z => by cases z)) hp⟩⟩
theorem ref_rg : Ref RgAt := ⟨sta_rg, fun _ _ _ ⟨p, e, _⟩ => ⟨p, e⟩, fun H H' S v x h s ⟨p, e, hp⟩ => ⟨p, e, s _ _ (src_ne_o h hp (fun _ z => by cases z)) hp⟩⟩
theorem Ref.ls {α : Type} {R : Hp → V → α → Prop} (m : Ref R) {H H' : Hp} {S : Addr} {v : V} {xs : List α} (h : SrcAt H S) (s : SamX S H H') (hl : LsAt R H v xs) : LsAt R H' v xs := by
  obtain ⟨a, us, e, ha, hp⟩ := hl
  have hne : a ≠ S := fun z => by
    obtain ⟨i, j, k, hs⟩ := h
    rw [z, hs] at ha
    have := HO.lst.inj (Option.some.inj ha)
    rw [← this] at hp
    cases hp with
    | cons h1 _ =>
      obtain ⟨p, e⟩ := m.ref _ _ _ h1
      cases e
  exact ⟨a, us, e, s _ _ hne ha, L2.Paired.mapP hp fun v x => m.keep H H' S v x h s⟩
theorem keep_ints {H H' : Hp} {S : Addr} {v : V} {ns : List Int} (h : SrcAt H S) (s : SamX S H H') (hn : ns.length ≠ 3) (hl : LsAt IsI H v ns) : LsAt IsI H' v ns := by
  obtain ⟨a, us, e, ha, hp⟩ := hl
  refine ⟨a, us, e, s _ _ (src_ne_l h ha (by rw [PySem.Paired.length hp]; exact hn)) ha, L2.Paired.mapP hp fun v x => id⟩
theorem src_same {H H' : Hp} {S : Addr} (s : Same H H') (h : SrcAt H S) : SrcAt H' S := by
  obtain ⟨a, b, c, e⟩ := h
  exact ⟨a, b, c, s _ _ e⟩
theorem src_upd {H : Hp} {S p : Addr} {o : HO} (h : SrcAt H S) (n : p ≠ S) : SrcAt (upd H p o) S := by
  obtain ⟨a, b, c, e⟩ := h
  exact ⟨a, b, c, by rw [upd_ne (Ne.symm n)]; exact e⟩
theorem src_fresh {H : Hp} {S p : Addr} (h : SrcAt H S) (n : H p = none) : p ≠ S := fun z => by
  obtain ⟨a, b, c, e⟩ := h
  rw [z, e] at n
  cases n
theorem mod_small (x : Int) : -(2 ^ 64) < x % 2147483647 ∧ x % 2147483647 < 2 ^ 64 := by omega
theorem pP : (0 : Int) < 2147483647 := by decide
theorem pQ : (0 : Int) < 2147483399 := by decide
abbrev big9 : Int := 1000000000
section
variable {P : Program} {w : World} {K : PySem.W.Frag} {mg : Str → Option Value} {base : Heap}
def spNext : Sp := fun vs H Q _ => ∃ (S : Addr) (m : Int), vs = [.ref S, .int m] ∧ SrcAt H S ∧ 0 < m ∧ m < 1073741824 ∧ ∀ r H', 0 ≤ r → r < m → SamX S H H' → SrcAt H' S → Q (.int r) H'
abbrev N_Lnext : List Str := ["_law_source", "_law_many", "_law_found", "_law_prime", "_law_mixed"]
theorem sc_Lnext : FnScope N_Lnext ["_law_source", "_law_many"] (defScope s_Lnext) := ⟨rfl, rfl, rfl, by decide +kernel, rfl, by decide +kernel, by decide +kernel⟩
theorem c_Lnext (T : Tx K mg) : C8.Cal P w K mg base 1 "_law_next" spNext [] := by
  refine T.cal 45 36 rfl rfl sc_Lnext ?_ (fun _ _ _ _ _ _ us hl => match us, hl with | [_, _], _ => rfl) ?_
  · rintro vs H Q E ⟨S, m, rfl, _⟩; rfl
  · rintro cdv A outer s H vs Q E hr ⟨S, m, rfl, ⟨a, b, c, hS⟩, hm0, hm1, h⟩
    refine ⟨_, (pss_cons (ps_if (pt_cmpR op_gt (pe_ix ix_list (pv 0) pe_int (fun _ _ => rfl)) pe_int (nomark _)) (pss_cons (ps_set (i := 2) sc_Lnext.nd rfl (Or.inl rfl) (pe_op op_mod (pe_callTy call_int1 (by rfl) T.n_int boot_int_ (pa_cons (pe_ix ix_list (pv 0) pe_int (fun _ _ => rfl)) pa_nil)) (pv 1)))
        (pss_cons (ps_asg (pe_op op_fdivN (pe_ix ix_list (pv 0) pe_int (fun _ _ => rfl)) (pv 1)) (pg_sub (pv 0) pe_int set_list))
        (pss_one (ps_ret (pv 2))))) pss_nil)
      (pss_cons (ps_asg (pe_op op_add (pe_ix ix_list (pv 0) pe_int (fun _ _ => rfl)) pe_int) (pg_sub (pv 0) pe_int set_list))
      (pss_cons (ps_set (i := 3) sc_Lnext.nd rfl (Or.inl rfl) pe_int)
      (pss_cons (ps_set (i := 4) sc_Lnext.nd rfl (Or.inl rfl) (pe_op op_mod (pe_callTy call_int1 (by rfl) T.n_int boot_int_ (pa_cons (pe_op op_add (pe_op op_add (pe_ix ix_list (pv 0) pe_int (fun _ _ => rfl)) (pe_op op_mul pe_int (pe_ix ix_list (pv 0) pe_int (fun _ _ => rfl)))) pe_int) pa_nil)) (pv 3)))
      (pss_cons (ps_set (i := 4) sc_Lnext.nd rfl (Or.inl rfl) (pe_op op_mod (pe_callTy call_int1 (by rfl) T.n_int boot_int_ (pa_cons (pe_op op_mul (pv 4) pe_int) pa_nil)) (pv 3)))
      (pss_cons (ps_set (i := 4) sc_Lnext.nd rfl (Or.inl rfl) (pe_op op_mod (pe_callTy call_int1 (by rfl) T.n_int boot_int_ (pa_cons (pe_op op_mul (pv 4) (pe_op op_add (pe_op op_fdiv (pv 4) pe_int) pe_int)) pa_nil)) (pv 3)))
      (pss_cons (ps_set (i := 4) sc_Lnext.nd rfl (Or.inl rfl) (pe_op op_mod (pe_callTy call_int1 (by rfl) T.n_int boot_int_ (pa_cons (pe_op op_mul (pv 4) (pe_op op_add (pe_op op_fdiv (pv 4) pe_int) pe_int)) pa_nil)) pe_int))
      (pss_one (ps_ret (pe_op op_mod (pe_callTy call_int1 (by rfl) T.n_int boot_int_ (pa_cons (pe_op op_fdiv (pv 4) pe_int) pa_nil)) (pv 1))))))))))), ?_⟩
    refine ⟨_, rfl, S, _, _, _, rfl, rfl, SqL.of hS, rfl, _, _, rfl, rfl, _, rfl, ?_⟩
    by_cases c0 : a > 0
    · rw [decide_eq_true c0]
      refine iteT ⟨_, rfl, S, _, _, _, rfl, rfl, SqL.of hS, rfl, .inl ⟨_, rfl, _, rfl, _, _, rfl, rfl, hm0, ?_⟩⟩
      refine ⟨_, rfl, S, _, _, _, rfl, rfl, SqL.of hS, rfl, _, rfl, _, _, rfl, rfl, ⟨by omega, by omega⟩, _, rfl, S, _, _, 0, rfl, rfl, hS, rfl, ?_⟩
      exact ⟨_, rfl, h _ _ (Int.emod_nonneg _ (by omega)) (Int.emod_lt_of_pos _ hm0) (SamX.refl _ _).upd ⟨_, _, _, upd_same⟩⟩
    · rw [decide_eq_false c0]
      refine iteF ⟨_, rfl, S, _, _, _, rfl, rfl, SqL.of hS, rfl, _, _, rfl, rfl, _, rfl, S, _, _, 2, rfl, rfl, hS, rfl, ?_⟩
      refine ⟨_, rfl, S, _, _, _, rfl, rfl, SqL.of upd_same, rfl, _, rfl, S, _, _, _, rfl, rfl, SqL.of upd_same, rfl, _, _, rfl, rfl, .inl (by decide), _, _, rfl, rfl, _, _, rfl, rfl, .inl ⟨_, rfl, _, rfl, _, _, rfl, rfl, pP, ?_⟩⟩
      refine ⟨_, rfl, _, _, rfl, rfl, .inr (by decide), .inl ⟨_, rfl, _, rfl, _, _, rfl, rfl, pP, ?_⟩⟩
      refine ⟨_, rfl, _, rfl, _, _, rfl, rfl, ⟨by decide, by decide⟩, _, _, rfl, rfl, _, _, rfl, rfl, .inl (mod_small _), .inl ⟨_, rfl, _, rfl, _, _, rfl, rfl, pP, ?_⟩⟩
      refine ⟨_, rfl, _, rfl, _, _, rfl, rfl, ⟨by decide, by decide⟩, _, _, rfl, rfl, _, _, rfl, rfl, .inl (mod_small _), .inl ⟨_, rfl, _, _, rfl, rfl, pQ, ?_⟩⟩
      refine ⟨_, rfl, _, _, rfl, rfl, ⟨by decide, by decide⟩, .inl ⟨_, rfl, _, rfl, _, _, rfl, rfl, hm0, ?_⟩⟩
      exact h _ _ (Int.emod_nonneg _ (by omega)) (Int.emod_lt_of_pos _ hm0) (SamX.refl _ _).upd ⟨_, _, _, upd_same⟩
def spOne (K : PySem.W.Frag) : Sp := fun vs H Q _ => ∃ (S a : Addr) (us : List V), vs = [.ref S, .ref a] ∧ SrcAt H S ∧ H a = some (.lst us) ∧ a ≠ S ∧ 1 ≤ us.length ∧ us.length ≤ 1000 ∧ ∀ x H', x ∈ us → SamX S H H' → SrcAt H' S → Q x H'
theorem atI_in {us : List V} {r : Int} (h0 : 0 ≤ r) (h1 : r < us.length) : ∃ x, atI us r = some x ∧ x ∈ us := by
  have hlt : r.toNat < us.length := by omega
  refine ⟨us[r.toNat], ?_, List.getElem_mem hlt⟩
  unfold atI ixN
  rw [if_pos h0, if_pos h1]
  exact List.getElem?_eq_getElem hlt
abbrev N_Lone : List Str := ["_law_source", "_law_some_here"]
theorem sc_Lone : FnScope N_Lone ["_law_source", "_law_some_here"] (defScope s_Lone) := ⟨rfl, rfl, rfl, by decide +kernel, rfl, by decide +kernel, by decide +kernel⟩
theorem c_Lone (T : Tx K mg) : C8.Cal P w K mg base 2 "_law_one" (spOne K) [] := by
  have c_Lnext : C8.Cal P w K mg base 1 "_law_next" spNext [] := c_Lnext T
  refine T.cal 46 37 rfl rfl sc_Lone ?_ (fun _ _ _ _ _ _ us hl => match us, hl with | [_, _], _ => rfl) ?_
  · rintro vs H Q E ⟨S, a, us, rfl, _⟩; rfl
  · rintro cdv A outer s H vs Q E hr ⟨S, a, us, rfl, hS, ha, hne, h1, h2, h⟩
    refine ⟨_, (pss_one (ps_ret (pe_ix ix_list (pv 1) (C8.pe_c c_Lnext hr (by decide) rfl (pa_cons (pv 0) (pa_cons (pe_callB call_len_seq (by rfl) T.n_len boot_len_ (pa_cons (pv 1) pa_nil)) pa_nil))) (fun _ _ => rfl)))), ?_⟩
    refine ⟨_, rfl, _, rfl, _, rfl, a, us, rfl, .inl (SqL.of ha), S, _, rfl, hS, by omega, by omega, fun r H' r0 r1 sx hS' => ?_⟩
    obtain ⟨x, ex, mx⟩ := atI_in r0 r1
    exact ⟨a, us, r, x, rfl, rfl, SqL.of (sx _ _ hne ha), ex, h x H' mx sx hS'⟩
def spWide : Sp := fun vs H Q _ => ∃ (S : Addr) (m : Int), vs = [.ref S, .int m] ∧ SrcAt H S ∧ 0 < m ∧ ∀ r H', 0 ≤ r → r < m → SamX S H H' → SrcAt H' S → Q (.int r) H'
abbrev N_Lwide : List Str := ["_law_source", "_law_many", "_law_found", "_law_most"]
theorem sc_Lwide : FnScope N_Lwide ["_law_source", "_law_many"] (defScope s_Lwide) := ⟨rfl, rfl, rfl, by decide +kernel, rfl, by decide +kernel, by decide +kernel⟩
theorem c_Lwide (T : Tx K mg) : C8.Cal P w K mg base 2 "_law_wide" spWide [] := by
  have c_Lnext : C8.Cal P w K mg base 1 "_law_next" spNext [] := c_Lnext T
  refine T.cal 47 38 rfl rfl sc_Lwide ?_ (fun _ _ _ _ _ _ us hl => match us, hl with | [_, _], _ => rfl) ?_
  · rintro vs H Q E ⟨S, m, rfl, _⟩; rfl
  · rintro cdv A outer s H vs Q E hr ⟨S, m, rfl, hS, hm0, h⟩
    refine ⟨_, (pss_cons (ps_asg (pe_tup (pa_cons pe_int (pa_cons pe_int pa_nil))) (pg_tup rfl (pgs_cons (pg_name (i := 2) sc_Lwide.nd rfl (Or.inl rfl)) (pgs_cons (pg_name (i := 3) sc_Lwide.nd rfl (Or.inl rfl)) pgs_nil))))
      (pss_cons (ps_while PassesOwn.never (pt_cmpR op_lt (pv 3) (pv 1) (nomark _))
        (pss_one (ps_par (i := 2) (j := 3) rfl sc_Lwide.nd rfl rfl (by decide) rfl rfl (pa_cons (pe_op op_add (pe_op op_mul (pv 2) (pe_op op_pow pe_int pe_int)) (C8.pe_c c_Lnext hr (by decide) rfl (pa_cons (pv 0) (pa_cons (pe_op op_pow pe_int pe_int) pa_nil)))) (pa_cons (pe_op op_mul (pv 3) (pe_op op_pow pe_int pe_int)) pa_nil)) (by rfl))))
      (pss_one (ps_ret (pe_op op_mod (pe_callTy call_int1 (by rfl) T.n_int boot_int_ (pa_cons (pv 2) pa_nil)) (pv 1)))))), ?_⟩
    refine ⟨by show 2 ≤ sizeLine; decide, fun t ht => ⟨t, _, rfl, SqT.of upd_same, rfl, _, _, rfl, _, _, rfl, rfl, ?_⟩⟩
    have s1 : Same H (upd H t (.tup [.int 0, .int 1])) := same_new ht
    refine ⟨fun n σ H2 => SamX S H H2 ∧ SrcAt H2 S ∧ ∃ (f mo : Int), 1 ≤ mo ∧ n = (m - mo).toNat ∧ σ = [some (.ref S), some (.int m), some (.int f), some (.int mo)], ⟨_, SamX.of s1, src_same s1 hS, 0, 1, by decide, rfl, rfl⟩, ?_⟩
    rintro n σ H2 ⟨sx, hS2, f, mo, hmo, rfl, rfl⟩
    refine ⟨_, rfl, _, rfl, _, _, rfl, rfl, _, rfl, ?_⟩
    by_cases c : mo < m
    · rw [decide_eq_true c]
      refine iteT ⟨fun σ' H' => SamX S H H' ∧ SrcAt H' S ∧ ∃ (f' mo' : Int), 1 ≤ mo' ∧ (m - mo').toNat < (m - mo).toNat ∧ σ' = [some (.ref S), some (.int m), some (.int f'), some (.int mo')], fun σ' H' z => ?_, ?_⟩
      · obtain ⟨z1, z2, f', mo', z3, z4, z5⟩ := z
        exact ⟨_, z4, z1, z2, f', mo', z3, rfl, z5⟩
      · refine ⟨_, rfl, _, _, rfl, rfl, ⟨by decide, by decide, by decide⟩, _, _, rfl, rfl, .inr (by decide), _, rfl, _, _, rfl, rfl, ⟨by decide, by decide, by decide⟩, S, _, rfl, hS2, by decide, by decide, fun r H' r0 r1 sx' hS' => ?_⟩
        refine ⟨_, _, rfl, rfl, _, rfl, _, _, rfl, rfl, ⟨by decide, by decide, by decide⟩, _, _, rfl, rfl, .inr (by decide), _, _, rfl, ?_⟩
        refine ⟨sx.trans sx', hS', _, _, ?_, ?_, rfl⟩
        · show 1 ≤ mo * 1000000000
          omega
        · show (m - mo * 1000000000).toNat < (m - mo).toNat
          omega
    · rw [decide_eq_false c]
      refine iteF ⟨_, rfl, .inl ⟨_, rfl, _, rfl, _, _, rfl, rfl, hm0, ?_⟩⟩
      exact h _ _ (Int.emod_nonneg _ (by omega)) (Int.emod_lt_of_pos _ hm0) sx hS2
def spPut : Sp := fun vs H Q _ => ∃ (v : V) (k : Kd) (n : Int), vs = [v, .int n] ∧ ShAt H v k ∧ k.Ok ∧ Q (.int (put k n)) H
abbrev N_Lput : List Str := ["_law_shape_here", "_law_n", "_law_low"]
theorem sc_Lput : FnScope N_Lput ["_law_shape_here", "_law_n"] (defScope s_Lput) := ⟨rfl, rfl, rfl, by decide +kernel, rfl, by decide +kernel, by decide +kernel⟩
theorem c_Lput (T : Tx K mg) : C8.Cal P w K mg base 1 "_law_put" spPut [] := by
  refine T.cal 48 39 rfl rfl sc_Lput ?_ (fun _ _ _ _ _ _ us hl => match us, hl with | [_, _], _ => rfl) ?_
  · rintro vs H Q E ⟨v, k, n, rfl, _⟩; rfl
  · rintro cdv A outer s H vs Q E hr ⟨v, k, n, rfl, ⟨p, rfl, hp⟩, hk, h⟩
    refine ⟨_, (pss_cons (ps_set (i := 2) sc_Lput.nd rfl (Or.inl rfl) (pe_ifExp (pt_val (pe_ix ix_tup (pv 0) pe_int (fun _ _ => rfl))) (pe_op op_sub pe_int (pe_op op_shl1 pe_int (pe_op op_sub (pe_ix ix_tup (pv 0) pe_int (fun _ _ => rfl)) pe_int))) pe_int))
      (pss_one (ps_ret (pe_op op_add (pv 2) (pe_op op_mod (pe_callTy call_int1 (by rfl) T.n_int boot_int_ (pa_cons (pe_op op_sub (pv 1) (pv 2)) pa_nil)) (pe_op op_shl1 pe_int (pe_ix ix_tup (pv 0) pe_int (fun _ _ => rfl)))))))), ?_⟩
    have h1 := hk.1
    have h2 := hk.2
    refine ⟨_, rfl, p, _, _, _, rfl, rfl, SqT.of hp, rfl, _, rfl, ?_⟩
    have h : Q (.int (put k n)) H := h
    unfold put Rw.lo at h
    cases e : k.s with
    | true =>
      rw [e, if_pos rfl] at h
      refine iteT ⟨_, rfl, p, _, _, _, rfl, rfl, SqT.of hp, rfl, _, _, rfl, rfl, k.w - 1, rfl, pred_i h1, by omega, _, _, rfl, rfl, ?_⟩
      exact ⟨_, rfl, _, rfl, _, rfl, _, _, rfl, rfl, .inl ⟨_, rfl, _, rfl, p, _, _, _, rfl, rfl, SqT.of hp, rfl, k.w, rfl, rfl, by omega, _, _, rfl, rfl, P2_pos _, _, _, rfl, rfl, h⟩⟩
    | false =>
      rw [e, if_neg (by decide)] at h
      refine iteF ?_
      exact ⟨_, rfl, _, rfl, _, rfl, _, _, rfl, rfl, .inl ⟨_, rfl, _, rfl, p, _, _, _, rfl, rfl, SqT.of hp, rfl, k.w, rfl, rfl, by omega, _, _, rfl, rfl, P2_pos _, _, _, rfl, rfl, h⟩⟩
/-- a list of shapes -/
abbrev RwsAt (H : Hp) (v : V) (ks : List Kd) : Prop := LsAt ShAt H v ks
def spLcast : Sp := fun vs H Q _ => ∃ (v : V) (ks : List Kd) (n : Int), vs = [v, .int n] ∧ RwsAt H v ks ∧ (∀ k ∈ ks, k.Ok) ∧ Q (.int (castL ks n)) H
abbrev N_Lcast : List Str := ["_law_rows_here", "_law_n", "_law_shape_here"]
theorem sc_Lcast : FnScope N_Lcast ["_law_rows_here", "_law_n"] (defScope s_Lcast) := ⟨rfl, rfl, rfl, by decide +kernel, rfl, by decide +kernel, by decide +kernel⟩
theorem c_Lcast (T : Tx K mg) : C8.Cal P w K mg base 2 "_law_cast" spLcast [] := by
  have c_Lput : C8.Cal P w K mg base 1 "_law_put" spPut [] := c_Lput T
  refine T.cal 49 40 rfl rfl sc_Lcast ?_ (fun _ _ _ _ _ _ us hl => match us, hl with | [_, _], _ => rfl) ?_
  · rintro vs H Q E ⟨v, ks, n, rfl, _⟩; rfl
  · rintro cdv A outer s H vs Q E hr ⟨v, ks, n, rfl, ⟨a, us, rfl, ha, hp⟩, hks, h⟩
    refine ⟨_, (pss_cons (ps_for PassesOwn.never rfl (pi_list (pv 0)) (pg_name (i := 2) sc_Lcast.nd rfl (Or.inl rfl))
        (pss_one (ps_set (i := 1) sc_Lcast.nd rfl (Or.inl rfl) (C8.pe_c c_Lput hr (by decide) rfl (pa_cons (pv 2) (pa_cons (pv 1) pa_nil))))))
      (pss_one (ps_ret (pv 1)))), ?_⟩
    refine ⟨_, rfl, a, rfl, ⟨_, SqL.of ha⟩, for_list (K := K) (a := a) (xs := us) (fun i σ H2 => ∃ o, σ = [some (.ref a), some (.int (castL (ks.take i) n)), o] ∧ H2 = H) ⟨none, rfl, rfl⟩ (fun i σ H2 _ ⟨_, _, e⟩ => by rw [e]; exact SqL.of ha) ?_ ?_⟩
    · rintro i x σ H2 hi ⟨o, rfl, rfl⟩
      obtain ⟨k0, hk0, hki⟩ := Paired.get hp hi
      have e : ks.take (i + 1) = ks.take i ++ [k0] := by rw [List.take_add_one, hk0]; rfl
      refine ⟨_, rfl, _, rfl, x, k0, _, rfl, hki, hks _ (List.mem_of_getElem? hk0), some x, ?_, rfl⟩
      rw [e, castL_append]
      rfl
    · rintro σ H2 ⟨o, rfl, rfl⟩
      rw [PySem.Paired.length hp, List.take_length]
      exact ⟨_, rfl, h⟩
end
end Fw



/-! The law's helpers, further. -/
namespace Fw
open PySem PySem.Spec PyProof.Rows L2 Rw
theorem SamX.own {p : Addr} {H H' : Hp} {q : Addr} {o : HO} (s : SamX p H H') (h : H q = none) : SamX p H (L2.upd H' q o) := fun a u n e => by
  rw [upd_ne (ne_of_none e h)]; exact s a u n e
def inRs (l : List (Int × Int)) (n : Int) : Bool := l.any fun r => decide (r.1 ≤ n) && decide (n ≤ r.2)
theorem inRs_iff {l : List (Int × Int)} {n : Int} : inRs l n = true ↔ ∃ p ∈ l, Rw.inR p n := by
  unfold inRs Rw.inR
  rw [List.any_eq_true]
  constructor
  · rintro ⟨p, m, h⟩
    rw [Bool.and_eq_true, decide_eq_true_eq, decide_eq_true_eq] at h
    exact ⟨p, m, h⟩
  · rintro ⟨p, m, h⟩
    exact ⟨p, m, by rw [Bool.and_eq_true, decide_eq_true_eq, decide_eq_true_eq]; exact h⟩
theorem any_ne {α β : Type} [DecidableEq β] (p : α → Bool) (f : α → β) (l : List α) : (!decide ((l.filter p).map f = [])) = l.any p := by
  induction l with
  | nil => rfl
  | cons x l ih =>
    cases h : p x with
    | true => simp [List.filter_cons, h]
    | false => simp only [List.filter_cons, h, List.any_cons, Bool.false_or, ← ih]; rfl
section
variable {P : Program} {w : World} {K : PySem.W.Frag} {mg : Str → Option Value} {base : Heap}
def spMade (K : PySem.W.Frag) : Sp := fun vs H Q _ => ∃ (v : V) (ks : List Kd), vs = [v] ∧ RwsAt H v ks ∧ (∀ k ∈ ks, k.Ok) ∧ ks.length ≤ 1000 ∧ ∀ u H', Same H H' → KsAt K H' u ks → Q u H'
abbrev N_Lmade : List Str := ["_law_rows_here", "_law_shape_here"]
theorem sc_Lmade : FnScope N_Lmade ["_law_rows_here"] (defScope s_Lmade) := ⟨rfl, rfl, rfl, by decide +kernel, rfl, by decide +kernel, by decide +kernel⟩
theorem c_Lmade (T : Tx K mg) : C8.Cal P w K mg base 5 "_law_made" (spMade K) [] := by
  have k_Kind : C8.Mak P w K mg base 3 "Kind" (CK K) (spKiInit K) [] := k_Kind T
  refine T.cal 50 41 rfl rfl sc_Lmade ?_ (fun _ _ _ _ _ _ us hl => match us, hl with | [_], _ => rfl) ?_
  · rintro vs H Q E ⟨v, ks, rfl, _⟩; rfl
  · rintro cdv A outer s H vs Q E hr ⟨v, ks, rfl, ⟨a, us, rfl, ha, hp⟩, hks, h1000, h⟩
    refine ⟨_, (pss_one (ps_ret (pe_lc (own := [("_law_shape_here", 1)]) (g := gName 1) (tt := tYes) (te := (tMake (CK K) (spKiInit K) [] C8.E0 (tCons (tOp (rIxT K) (tVar 1) (tC (V.int 0))) (tCons (tOp (rIxT K) (tVar 1) (tC (V.int 1))) tNil)))) rfl sc_Lmade.nd (pi_list (pv 0)) (blkOk_by (own := [("_law_shape_here", 1)]) (N := N_Lmade) (sc := (defScope s_Lmade)) (by decide +kernel)) (fun _ _ _ _ _ => (pg_name (i := 1) sc_Lmade.nd rfl (Or.inl rfl))) (fun _ _ _ _ _ => pts_nil) (fun _ _ _ _ _ => (C8.pe_mk k_Kind hr (by decide) rfl (pa_cons (pe_ix ix_tup (pv 1) pe_int (fun _ _ => rfl)) (pa_cons (pe_ix ix_tup (pv 1) pe_int (fun _ _ => rfl)) pa_nil))))))), ?_⟩
    refine ⟨_, rfl, a, rfl, ⟨_, SqL.of ha⟩, fun D hD => lc_new (K := K) (sta_ki (K := K)) ks (PySem.Paired.length hp) (by omega) hD (SqL.of ha) (fun i x H' hi s' Q' c => ?_) (fun bs H' s' hd hb => ?_)⟩
    · obtain ⟨k, hk, q, rfl, hq⟩ := Paired.get hp hi
      have hq' := s' _ _ hq
      refine ⟨rfl, _, rfl, q, _, _, _, rfl, rfl, SqT.of hq', rfl, _, rfl, q, _, _, _, rfl, rfl, SqT.of hq', rfl, ?_⟩
      intro y dy hy hdy hne
      exact make_kind (k := k) hy hdy hne (hks _ (List.mem_of_getElem? hk)) fun H5 s5 hky => c _ _ _ hk s5 hky
    · exact h _ _ s' ⟨D, bs, rfl, hd, hb⟩
def spParts (K : PySem.W.Frag) : Sp := fun vs H Q _ => ∃ (v : V) (ks : List Kd), vs = [v] ∧ KsAt K H v ks ∧ ks.length ≤ 1000 ∧ ∀ u H', Same H H' → RwsAt H' u ks → Q u H'
abbrev N_Lparts : List Str := ["_law_row", "_law_one_here"]
theorem sc_Lparts : FnScope N_Lparts ["_law_row"] (defScope s_Lparts) := ⟨rfl, rfl, rfl, by decide +kernel, rfl, by decide +kernel, by decide +kernel⟩
theorem c_Lparts (T : Tx K mg) : C8.Cal P w K mg base 2 "_law_parts" (spParts K) [] := by
  have m_Kind_parts : C8.Met P w K mg base 1 (CK K) "parts" (spKiParts K) [] := m_Kind_parts T
  refine T.cal 51 42 rfl rfl sc_Lparts ?_ (fun _ _ _ _ _ _ us hl => match us, hl with | [_], _ => rfl) ?_
  · rintro vs H Q E ⟨v, ks, rfl, _⟩; rfl
  · rintro cdv A outer s H vs Q E hr ⟨v, ks, rfl, ⟨a, us, rfl, ha, hp⟩, h1000, h⟩
    refine ⟨_, (pss_one (ps_ret (pe_lc (own := [("_law_one_here", 1)]) (g := gName 1) (tt := tYes) (te := (tMeth (CK K) "parts" (spKiParts K) [] C8.E0 (tVar 1) tNil)) rfl sc_Lparts.nd (pi_list (pv 0)) (blkOk_by (own := [("_law_one_here", 1)]) (N := N_Lparts) (sc := (defScope s_Lparts)) (by decide +kernel)) (fun _ _ _ _ _ => (pg_name (i := 1) sc_Lparts.nd rfl (Or.inl rfl))) (fun _ _ _ _ _ => pts_nil) (fun _ _ _ _ _ => (C8.pe_mt0 m_Kind_parts hr (by decide) (pv 1)))))), ?_⟩
    refine ⟨_, rfl, a, rfl, ⟨_, SqL.of ha⟩, fun D hD => lc_new (K := K) sta_sh ks (PySem.Paired.length hp) (by omega) hD (SqL.of ha) (fun i x H' hi s' Q' c => ?_) (fun bs H' s' hd hb => ?_)⟩
    · obtain ⟨k, hk, q, dx, rfl, hq⟩ := Paired.get hp hi
      have hq' := s' _ _ hq
      exact ⟨rfl, _, rfl, q, dx, _, rfl, hq', rfl, _, k, rfl, ⟨q, dx, rfl, hq'⟩, fun t H5 s5 ht => c _ _ _ hk s5 ht⟩
    · exact h _ _ s' ⟨D, bs, rfl, hd, hb⟩
def spRange : Sp := fun vs H Q _ => ∃ (v : V) (k : Kd), vs = [v] ∧ ShAt H v k ∧ k.Ok ∧ ∀ u H', Same H H' → RgAt H' u (Rw.lo k, Rw.hi k) → Q u H'
abbrev N_Lrange : List Str := ["_law_shape_here", "_law_low"]
theorem sc_Lrange : FnScope N_Lrange ["_law_shape_here"] (defScope s_Lrange) := ⟨rfl, rfl, rfl, by decide +kernel, rfl, by decide +kernel, by decide +kernel⟩
theorem c_Lrange (T : Tx K mg) : C8.Cal P w K mg base 1 "_law_range" spRange [] := by
  refine T.cal 52 43 rfl rfl sc_Lrange ?_ (fun _ _ _ _ _ _ us hl => match us, hl with | [_], _ => rfl) ?_
  · rintro vs H Q E ⟨v, k, rfl, _⟩; rfl
  · rintro cdv A outer s H vs Q E hr ⟨v, k, rfl, ⟨p, rfl, hp⟩, hk, h⟩
    refine ⟨_, (pss_cons (ps_set (i := 1) sc_Lrange.nd rfl (Or.inl rfl) (pe_ifExp (pt_val (pe_ix ix_tup (pv 0) pe_int (fun _ _ => rfl))) (pe_op op_sub pe_int (pe_op op_shl1 pe_int (pe_op op_sub (pe_ix ix_tup (pv 0) pe_int (fun _ _ => rfl)) pe_int))) pe_int))
      (pss_one (ps_ret (pe_tup (pa_cons (pv 1) (pa_cons (pe_op op_sub (pe_op op_add (pv 1) (pe_op op_shl1 pe_int (pe_ix ix_tup (pv 0) pe_int (fun _ _ => rfl)))) pe_int) pa_nil)))))), ?_⟩
    have h1 := hk.1
    have h2 := hk.2
    refine ⟨_, rfl, p, _, _, _, rfl, rfl, SqT.of hp, rfl, _, rfl, ?_⟩
    have fin : ∀ t, H t = none → Q (.ref t) (upd H t (.tup [.int (Rw.lo k), .int (Rw.lo k + P2 k.w - 1)])) := fun t ht => h _ _ (same_new ht) ⟨t, rfl, upd_same⟩
    unfold Rw.lo at fin
    cases e : k.s with
    | true =>
      rw [e, if_pos rfl] at fin
      refine iteT ⟨_, rfl, p, _, _, _, rfl, rfl, SqT.of hp, rfl, _, _, rfl, rfl, k.w - 1, rfl, pred_i h1, by omega, _, _, rfl, rfl, ?_⟩
      exact ⟨_, rfl, _, rfl, _, rfl, p, _, _, _, rfl, rfl, SqT.of hp, rfl, k.w, rfl, rfl, by omega, _, _, rfl, rfl, _, _, rfl, rfl, by show 2 ≤ sizeLine; decide, fin⟩
    | false =>
      rw [e, if_neg (by decide)] at fin
      refine iteF ?_
      exact ⟨_, rfl, _, rfl, _, rfl, p, _, _, _, rfl, rfl, SqT.of hp, rfl, k.w, rfl, rfl, by omega, _, _, rfl, rfl, _, _, rfl, rfl, by show 2 ≤ sizeLine; decide, fin⟩
def spShape : Sp := fun vs H Q _ => ∃ (S : Addr) (m : Int), vs = [.ref S, .int m] ∧ SrcAt H S ∧ 0 < m ∧ m ≤ 128 ∧ ∀ t H' k, k.Ok → SamX S H H' → SrcAt H' S → ShAt H' t k → Q t H'
abbrev N_Lshape : List Str := ["_law_source", "_law_most"]
theorem sc_Lshape : FnScope N_Lshape ["_law_source", "_law_most"] (defScope s_Lshape) := ⟨rfl, rfl, rfl, by decide +kernel, rfl, by decide +kernel, by decide +kernel⟩
theorem c_Lshape (T : Tx K mg) : C8.Cal P w K mg base 2 "_law_shape" spShape [] := by
  have c_Lnext : C8.Cal P w K mg base 1 "_law_next" spNext [] := c_Lnext T
  refine T.cal 53 44 rfl rfl sc_Lshape ?_ (fun _ _ _ _ _ _ us hl => match us, hl with | [_, _], _ => rfl) ?_
  · rintro vs H Q E ⟨S, m, rfl, _⟩; rfl
  · rintro cdv A outer s H vs Q E hr ⟨S, m, rfl, hS, hm0, hm1, h⟩
    refine ⟨_, (pss_one (ps_ret (pe_tup (pa_cons (pe_op op_add pe_int (C8.pe_c c_Lnext hr (by decide) rfl (pa_cons (pv 0) (pa_cons (pv 1) pa_nil)))) (pa_cons (pe_cmpR op_eqi (C8.pe_c c_Lnext hr (by decide) rfl (pa_cons (pv 0) (pa_cons pe_int pa_nil))) pe_int (nomark _)) pa_nil))))), ?_⟩
    refine ⟨_, rfl, _, rfl, S, m, rfl, hS, hm0, by omega, fun r H1 r0 r1 sx1 hS1 => ?_⟩
    refine ⟨_, _, rfl, rfl, _, rfl, S, _, rfl, hS1, by decide, by decide, fun q H2 q0 q1 sx2 hS2 => ?_⟩
    refine ⟨_, _, rfl, rfl, by show 2 ≤ sizeLine; decide, fun t ht => ?_⟩
    have e : ((1 + r).toNat : Int) = 1 + r := by omega
    refine h _ _ ⟨(1 + r).toNat, decide (q = 1)⟩ ⟨by show 1 ≤ (1 + r).toNat; omega, by show (1 + r).toNat ≤ 128; omega⟩ (sx1.trans (sx2.trans (SamX.of (same_new ht)))) (src_same (same_new ht) hS2) ⟨t, rfl, ?_⟩
    rw [upd_same, e]
def spRows : Sp := fun vs H Q _ => ∃ S : Addr, vs = [.ref S] ∧ SrcAt H S ∧ ∀ t H' ks, 1 ≤ ks.length → ks.length ≤ 18 → (∀ k ∈ ks, k.Ok) → SamX S H H' → SrcAt H' S → RwsAt H' t ks → Q t H'
abbrev N_Lrows : List Str := ["_law_source", "_law_most", "_law_many", "_law_turn"]
theorem sc_Lrows : FnScope N_Lrows ["_law_source"] (defScope s_Lrows) := ⟨rfl, rfl, rfl, by decide +kernel, rfl, by decide +kernel, by decide +kernel⟩
theorem c_Lrows (T : Tx K mg) : C8.Cal P w K mg base 3 "_law_rows" spRows [] := by
  have c_Lnext : C8.Cal P w K mg base 1 "_law_next" spNext [] := c_Lnext T
  have c_Lone : C8.Cal P w K mg base 2 "_law_one" (spOne K) [] := c_Lone T
  have c_Lshape : C8.Cal P w K mg base 2 "_law_shape" spShape [] := c_Lshape T
  refine T.cal 55 46 rfl rfl sc_Lrows ?_ (fun _ _ _ _ _ _ us hl => match us, hl with | [_], _ => rfl) ?_
  · rintro vs H Q E ⟨S, rfl, _⟩; rfl
  · rintro cdv A outer s H vs Q E hr ⟨S, rfl, hS, h⟩
    refine ⟨_, (pss_cons (ps_asg (pe_tup (pa_cons (C8.pe_c c_Lone hr (by decide) rfl (pa_cons (pv 0) (pa_cons (pe_lst (pa_cons pe_int (pa_cons pe_int (pa_cons pe_int (pa_cons pe_int pa_nil))))) pa_nil))) (pa_cons (C8.pe_c c_Lone hr (by decide) rfl (pa_cons (pv 0) (pa_cons (pe_lst (pa_cons pe_int (pa_cons pe_int (pa_cons pe_int pa_nil)))) pa_nil))) pa_nil))) (pg_tup rfl (pgs_cons (pg_name (i := 1) sc_Lrows.nd rfl (Or.inr rfl)) (pgs_cons (pg_name (i := 2) sc_Lrows.nd rfl (Or.inl rfl)) pgs_nil))))
      (pss_one (ps_ret (pe_lc (own := [("_law_turn", 3)]) (g := gName 3) (tt := tYes) (te := (_)) rfl sc_Lrows.nd (pi_range1 rfl T.n_range (pa_cons (pe_op op_add pe_int (C8.pe_c c_Lnext hr (by decide) rfl (pa_cons (pv 0) (pa_cons (pv 2) pa_nil)))) pa_nil)) (blkOk_by (own := [("_law_turn", 3)]) (N := N_Lrows) (sc := (defScope s_Lrows)) (by decide +kernel)) (fun _ _ _ _ _ => (pg_name (i := 3) sc_Lrows.nd rfl (Or.inl rfl))) (fun _ _ _ _ _ => pts_nil) (fun _ _ _ _ _ => (C8.pe_c c_Lshape hr (by decide) rfl (pa_cons (pv 0) (pa_cons (pv 1) pa_nil)))))))), ?_⟩
    refine ⟨_, rfl, by show 4 ≤ sizeLine; decide, fun l1 hl1 => ⟨S, l1, _, rfl, src_same (same_new hl1) hS, upd_same, src_fresh hS hl1, by show 1 ≤ 4; decide, by show 4 ≤ 1000; decide, fun x H1 hx sx1 hS1 => ?_⟩⟩
    have sx1' := (SamX.of (p := S) (same_new (o := .lst [.int 128, .int 128, .int 64, .int 20]) hl1)).trans sx1
    have hm : ∃ m : Int, x = .int m ∧ 0 < m ∧ m ≤ 128 := by
      simp at hx
      rcases hx with rfl | rfl | rfl <;> exact ⟨_, rfl, by decide, by decide⟩
    obtain ⟨m, rfl, hm0, hm1⟩ := hm
    refine ⟨_, rfl, by show 3 ≤ sizeLine; decide, fun l2 hl2 => ⟨S, l2, _, rfl, src_same (same_new hl2) hS1, upd_same, src_fresh hS1 hl2, by show 1 ≤ 3; decide, by show 3 ≤ 1000; decide, fun y H2 hy sx2 hS2 => ?_⟩⟩
    have sx2' := sx1'.trans ((SamX.of (p := S) (same_new (o := .lst [.int 7, .int 7, .int 18]) hl2)).trans sx2)
    have hm : ∃ m : Int, y = .int m ∧ 0 < m ∧ m ≤ 18 := by
      simp at hy
      rcases hy with rfl | rfl <;> exact ⟨_, rfl, by decide, by decide⟩
    obtain ⟨n, rfl, hn0, hn1⟩ := hm
    refine ⟨by show 2 ≤ sizeLine; decide, fun t ht => ⟨t, _, rfl, SqT.of upd_same, rfl, _, _, rfl, _, _, rfl, rfl, ?_⟩⟩
    have st : Same H2 (upd H2 t (.tup [.int m, .int n])) := same_new ht
    refine ⟨_, rfl, _, rfl, S, n, rfl, src_same st hS2, hn0, by omega, fun r H3 r0 r1 sx3 hS3 => ?_⟩
    have sx3' := sx2'.trans ((SamX.of st).trans sx3)
    refine ⟨_, _, rfl, rfl, _, rfl, by omega, by omega, fun D hD => lc_it (walk_range (lo := 0) (n := (1 + r).toNat)) (fun i H' => SamX S H3 H' ∧ SrcAt H' S ∧ ∃ us ks, H' D = some (.lst us) ∧ Paired (ShAt H') us ks ∧ ks.length = i ∧ (∀ k ∈ ks, k.Ok)) ⟨SamX.of (same_new hD), src_same (same_new hD) hS3, [], [], upd_same, .nil, rfl, by simp⟩ (fun _ _ _ _ => trivial) ?_ ?_⟩
    · rintro i x H5 H4 hi ⟨sx, hS4, us, ks, hd, hus, hlen, hok⟩ ⟨rfl, rfl⟩
      refine ⟨rfl, _, rfl, _, rfl, S, m, rfl, hS4, hm0, hm1, fun t H5 k hk sx5 hS5 ht => ?_⟩
      have hDS : D ≠ S := src_fresh hS3 hD
      have hd5 := sx5 _ _ hDS hd
      refine ⟨us, hd5, small (by rw [PySem.Paired.length hus]; omega), (sx.trans sx5).own hD, src_upd hS5 hDS, us ++ [t], ks ++ [k], upd_same, ?_, by simp [hlen], ?_⟩
      · refine sta_sh.paired hd5 (Paired.app (L2.Paired.mapP hus fun v x => ref_sh.keep _ _ S v x hS4 sx5) (.cons ht .nil))
      · intro j hj
        rcases List.mem_append.mp hj with z | z
        · exact hok j z
        · simp at z
          rw [z]
          exact hk
    · rintro H4 ⟨sx, hS4, us, ks, hd, hus, hlen, hok⟩
      exact h _ _ ks (by omega) (by omega) hok (sx3'.trans sx) hS4 ⟨D, us, rfl, hd, hus⟩
end
end Fw



/-! The law's helpers, the last. -/
namespace Fw
open PySem PySem.Spec PyProof.Rows L2 Rw
theorem zero_in {k : Kd} (hk : k.Ok) : Rw.lo k ≤ 0 ∧ 0 ≤ Rw.hi k := by
  have h1 := lo_cases k hk.1
  have hp := P2_pos (k.w - 1)
  unfold Rw.hi
  rcases h1.1 with ⟨_, e⟩ | ⟨_, e⟩ <;> omega
theorem lo_hi {k : Kd} : Rw.lo k ≤ Rw.hi k := by
  have := P2_pos k.w
  unfold Rw.hi
  omega
def clampV (l h x : Int) : Int := if (if x > l then x else l) < h then (if x > l then x else l) else h
theorem clampV_in {l h x : Int} (g : l ≤ h) : l ≤ clampV l h x ∧ clampV l h x ≤ h := by
  unfold clampV
  by_cases c : x > l
  · rw [if_pos c]
    split <;> omega
  · rw [if_neg c]
    split <;> omega
section
variable {P : Program} {w : World} {K : PySem.W.Frag} {mg : Str → Option Value} {base : Heap}
def spSome : Sp := fun vs H Q _ => ∃ (S : Addr) (v : V) (k : Kd), vs = [.ref S, v] ∧ SrcAt H S ∧ ShAt H v k ∧ k.Ok ∧ ∀ t H' ns, ns.length = 9 → (∀ n ∈ ns, Rw.lo k ≤ n ∧ n ≤ Rw.hi k) → SamX S H H' → SrcAt H' S → LsAt IsI H' t ns → Q t H'
abbrev N_Lsome : List Str := ["_law_source", "_law_shape_here", "_law_low", "_law_high", "_law_found", "_law_turn", "_law_power", "_law_near"]
theorem sc_Lsome : FnScope N_Lsome ["_law_source", "_law_shape_here"] (defScope s_Lsome) := ⟨rfl, rfl, rfl, by decide +kernel, rfl, by decide +kernel, by decide +kernel⟩
theorem c_Lsome (T : Tx K mg) : C8.Cal P w K mg base 3 "_law_some" spSome [] := by
  have c_Lnext : C8.Cal P w K mg base 1 "_law_next" spNext [] := c_Lnext T
  have c_Lone : C8.Cal P w K mg base 2 "_law_one" (spOne K) [] := c_Lone T
  have c_Lwide : C8.Cal P w K mg base 2 "_law_wide" spWide [] := c_Lwide T
  have c_Lrange : C8.Cal P w K mg base 1 "_law_range" spRange [] := c_Lrange T
  refine T.cal 56 47 rfl rfl sc_Lsome ?_ (fun _ _ _ _ _ _ us hl => match us, hl with | [_, _], _ => rfl) ?_
  · rintro vs H Q E ⟨S, v, k, rfl, _⟩; rfl
  · rintro cdv A outer s H vs Q E hr ⟨S, v, k, rfl, hS, hv, hk, h⟩
    refine ⟨_, (pss_cons (ps_asg (C8.pe_c c_Lrange hr (by decide) rfl (pa_cons (pv 1) pa_nil)) (pg_tup rfl (pgs_cons (pg_name (i := 2) sc_Lsome.nd rfl (Or.inl rfl)) (pgs_cons (pg_name (i := 3) sc_Lsome.nd rfl (Or.inl rfl)) pgs_nil))))
      (pss_cons (ps_set (i := 4) sc_Lsome.nd rfl (Or.inl rfl) (pe_lst (pa_cons (pv 2) (pa_cons (pv 3) (pa_cons pe_int pa_nil)))))
      (pss_cons (ps_for PassesOwn.never rfl (pi_range1 rfl T.n_range (pa_cons pe_int pa_nil)) (pg_name (i := 5) sc_Lsome.nd rfl (Or.inl rfl))
        (pss_cons (ps_set (i := 6) sc_Lsome.nd rfl (Or.inl rfl) (pe_op op_shl1 pe_int (C8.pe_c c_Lnext hr (by decide) rfl (pa_cons (pv 0) (pa_cons (pe_ix ix_tup (pv 1) pe_int (fun _ _ => rfl)) pa_nil)))))
          (pss_cons (ps_set (i := 7) sc_Lsome.nd rfl (Or.inl rfl) (C8.pe_c c_Lone hr (by decide) rfl (pa_cons (pv 0) (pa_cons (pe_lst (pa_cons (pv 6) (pa_cons (pe_op op_sub (pv 6) pe_int) (pa_cons (pe_op op_sub pe_int (pv 6)) (pa_cons (pe_op op_sub (pe_op op_sub pe_int (pv 6)) pe_int) (pa_cons (pe_op op_add (C8.pe_c c_Lwide hr (by decide) rfl (pa_cons (pv 0) (pa_cons (pe_op op_add (pe_op op_sub (pv 3) (pv 2)) pe_int) pa_nil))) (pv 2)) pa_nil)))))) pa_nil))))
          (pss_one (ps_expr (pe_bm PySem.F.plainAttrs_list PySem.F.slot_list_append PySem.F.type_list_append mt_append (pv 4) (pa_cons (pe_callB (call_min2 rfl) (by rfl) T.n_min boot_min_ (pa_cons (pv 3) (pa_cons (pe_callB (call_max2 rfl) (by rfl) T.n_max boot_max_ (pa_cons (pv 2) (pa_cons (pe_op op_add (pv 7) (C8.pe_c c_Lnext hr (by decide) rfl (pa_cons (pv 0) (pa_cons pe_int pa_nil)))) pa_nil))) pa_nil))) pa_nil)))))))
      (pss_one (ps_ret (pv 4)))))), ?_⟩
    refine ⟨_, rfl, v, k, rfl, hv, hk, fun t H1 s1 ht => ?_⟩
    obtain ⟨tr, rfl, htr⟩ := ht
    refine ⟨tr, _, rfl, SqT.of htr, rfl, _, _, rfl, _, _, rfl, rfl, ?_⟩
    refine ⟨_, rfl, _, rfl, by show 3 ≤ sizeLine; decide, fun l hl => ?_⟩
    have hS1 := src_same s1 hS
    have hlS : l ≠ S := src_fresh hS1 hl
    have s2 : Same H1 (upd H1 l (.lst [.int (Rw.lo k), .int (Rw.hi k), .int 0])) := same_new hl
    have s12 := s1.trans s2
    obtain ⟨p, rfl, hp⟩ := hv
    have hpS : p ≠ S := src_ne_o hS hp (fun _ z => by cases z)
    have h1 := hk.1
    have h2 := hk.2
    refine ⟨6, rfl, by decide, by decide, for_it (walk_range (lo := 0) (n := 6)) (fun i σ H2 => SamX S H H2 ∧ SrcAt H2 S ∧ ∃ ns : List Int, H2 l = some (.lst (ns.map V.int)) ∧ ns.length = 3 + i ∧ (∀ n ∈ ns, Rw.lo k ≤ n ∧ n ≤ Rw.hi k) ∧ ∃ o1 o2 o3, σ = [some (.ref S), some (.ref p), some (.int (Rw.lo k)), some (.int (Rw.hi k)), some (.ref l), o1, o2, o3]) ⟨SamX.of s12, src_same s12 hS, [Rw.lo k, Rw.hi k, 0], upd_same, rfl, ?_, none, none, none, rfl⟩ (fun _ _ _ _ _ => trivial) ?_ ?_⟩
    · intro n hn
      have z := zero_in hk
      simp at hn
      rcases hn with rfl | rfl | rfl <;> omega
    · rintro i x σ H3 H2 hi ⟨sx, hS2, ns, hl2, hlen, hin, o1, o2, o3, rfl⟩ ⟨rfl, rfl⟩
      refine ⟨_, rfl, _, rfl, p, _, _, _, rfl, rfl, SqT.of (sx _ _ hpS hp), rfl, S, _, rfl, hS2, by omega, by omega, fun r H3 r0 r1 sx3 hS3 => ?_⟩
      refine ⟨r.toNat, rfl, congrArg V.int (by omega), by omega, ?_⟩
      refine ⟨_, rfl, _, rfl, _, rfl, _, _, rfl, rfl, _, rfl, _, _, rfl, rfl, _, rfl, _, _, rfl, rfl, _, _, rfl, rfl, ?_⟩
      refine ⟨_, rfl, _, rfl, _, rfl, _, _, rfl, rfl, _, _, rfl, rfl, S, _, rfl, hS3, by have := lo_hi (k := k); omega, fun q H4 q0 q1 sx4 hS4 => ?_⟩
      refine ⟨_, rfl, _, _, rfl, rfl, by show 5 ≤ sizeLine; decide, fun m hm => ?_⟩
      refine ⟨S, m, _, rfl, src_same (same_new hm) hS4, upd_same, src_fresh hS4 hm, by show 1 ≤ 5; decide, by show 5 ≤ 1000; decide, fun y H5 hy sx5 hS5 => ?_⟩
      have hy2 : ∃ z : Int, y = .int z := by
        simp only [List.mem_cons, List.not_mem_nil, or_false] at hy
        rcases hy with rfl | rfl | rfl | rfl | rfl <;> exact ⟨_, rfl⟩
      obtain ⟨z, rfl⟩ := hy2
      have sx25 : SamX S H2 H5 := (sx3.trans sx4).trans ((SamX.of (same_new hm)).trans sx5)
      have hl5 := sx25 _ _ hlS hl2
      refine ⟨_, rfl, .inl ⟨rfl, _, SqL.of hl5⟩, _, rfl, _, rfl, _, rfl, _, rfl, S, _, rfl, hS5, by decide, by decide, fun d H6 d0 d1 sx6 hS6 => ?_⟩
      have hl6 := sx6 _ _ hlS hl5
      refine ⟨_, _, rfl, rfl, _, _, rfl, _, _, rfl, l, _, _, rfl, rfl, hl6, small (by rw [List.length_map]; omega), ?_⟩
      have hln : H l = none := by
        cases e : H l with
        | none => rfl
        | some o => exact absurd (s1 _ _ e) (by rw [hl]; intro z; cases z)
      refine ⟨((sx.trans sx25).trans sx6).own hln, src_upd hS6 hlS, ns ++ [clampV (Rw.lo k) (Rw.hi k) (z + d)], ?_, by rw [List.length_append, List.length_singleton]; omega, ?_, _, _, _, rfl⟩
      · rw [upd_same, List.map_append]
        rfl
      · intro n hn
        rcases List.mem_append.mp hn with g | g
        · exact hin n g
        · simp only [List.mem_singleton] at g
          rw [g]
          exact clampV_in lo_hi
    · rintro σ H2 ⟨sx, hS2, ns, hl2, hlen, hin, o1, o2, o3, rfl⟩
      exact ⟨_, rfl, h _ _ ns hlen hin sx hS2 ⟨l, _, rfl, hl2, of_ints ns⟩⟩
def spWithin : Sp := fun vs H Q _ => ∃ (v : V) (l : List (Int × Int)) (n : Int), vs = [v, .int n] ∧ RsAt H v l ∧ l.length ≤ 1000 ∧ ∀ H', Same H H' → Q (.bl (inRs l n)) H'
abbrev N_Lis_within : List Str := ["_law_ranges", "_law_n", "_law_first", "_law_last"]
theorem sc_Lis_within : FnScope N_Lis_within ["_law_ranges", "_law_n"] (defScope s_Lis_within) := ⟨rfl, rfl, rfl, by decide +kernel, rfl, by decide +kernel, by decide +kernel⟩
theorem c_Lis_within (T : Tx K mg) : C8.Cal P w K mg base 1 "_law_is_within" spWithin [] := by
  refine T.cal 57 48 rfl rfl sc_Lis_within ?_ (fun _ _ _ _ _ _ us hl => match us, hl with | [_, _], _ => rfl) ?_
  · rintro vs H Q E ⟨v, l, n, rfl, _⟩; rfl
  · rintro cdv A outer s H vs Q E hr ⟨v, l, n, rfl, ⟨a, us, rfl, ha, hp⟩, h1000, h⟩
    refine ⟨_, (pss_one (ps_ret (pe_cmpR (op_neD hr.units) (pe_lc (own := [("_law_first", 2), ("_law_last", 3)]) (g := gTup K 2 (gCons (gName 2) (gCons (gName 3) gNil))) (tt := (_)) (te := (_)) rfl sc_Lis_within.nd (pi_list (pv 0)) (blkOk_by (own := [("_law_first", 2), ("_law_last", 3)]) (N := N_Lis_within) (sc := (defScope s_Lis_within)) (by decide +kernel)) (fun _ _ _ _ _ => (pg_tup rfl (pgs_cons (pg_name (i := 2) sc_Lis_within.nd rfl (Or.inl rfl)) (pgs_cons (pg_name (i := 3) sc_Lis_within.nd rfl (Or.inl rfl)) pgs_nil)))) (fun _ _ _ _ _ => (pts_one (pt_chain op_le op_le (pv 2) (pv 1) (pv 3)))) (fun _ _ _ _ _ => pe_int)) (pe_lst pa_nil) (nomark _)))), ?_⟩
    refine ⟨_, rfl, a, rfl, ⟨_, SqL.of ha⟩, fun D hD => lc_fil (K := K) l (fun r => decide (r.1 ≤ n) && decide (n ≤ r.2)) (fun _ => .int 1) (fun z => [some (.ref a), some (.int n), some (.int z.1), some (.int z.2)]) (PySem.Paired.length hp) (by omega) hD (SqL.of ha) (fun i x z H' k hi hz s' hk => ?_) (fun _ => rfl) (fun z H' Q' _ s' c => ?_) (fun z H' Q' _ s' c => c) (fun H' s' hd => ?_)⟩
    · obtain ⟨z', hz', q, rfl, hq⟩ := Paired.get hp hi
      have : z = z' := Option.some.inj (hz.symm.trans hz')
      subst this
      exact ⟨q, _, rfl, SqT.of (s' _ _ hq), rfl, _, _, rfl, _, _, rfl, rfl, hk⟩
    · refine ⟨_, rfl, _, rfl, _, _, rfl, rfl, _, rfl, ?_⟩
      have c' := c H' (Same.refl _)
      by_cases c1 : z.1 ≤ n
      · rw [decide_eq_true c1, Bool.true_and] at c'
        rw [decide_eq_true c1]
        exact iteT ⟨_, rfl, _, _, rfl, rfl, _, rfl, c'⟩
      · rw [decide_eq_false c1, Bool.false_and] at c'
        rw [decide_eq_false c1]
        exact iteF ⟨false, rfl, c'⟩
    · refine ⟨by show 0 ≤ sizeLine; decide, fun e he => ?_⟩
      have hdI : LsAt IsI (upd H' e (.lst [])) (.ref D) ((l.filter fun r => decide (r.1 ≤ n) && decide (n ≤ r.2)).map fun _ => (1 : Int)) := by
        refine ⟨D, _, rfl, same_new he _ _ hd, ?_⟩
        have := of_ints (H := upd H' e (.lst [])) ((l.filter fun r => decide (r.1 ≤ n) && decide (n ≤ r.2)).map fun _ => (1 : Int))
        rw [List.map_map] at this
        exact this
      refine ⟨_, _, dp_ints hdI, dp_nil upd_same, shaped_ints _, shaped_pDs [], ?_⟩
      rw [show (PyData.list ([] : List PyData)) = PyData.list (([] : List Int).map PyData.int) from rfl, eqv_list PyData.int eqv_int, any_ne]
      exact h _ (s'.trans (same_new he))
def spCellAt (K : PySem.W.Frag) : Sp := fun vs H Q _ => ∃ (a : Addr) (ns : List Int) (i : Int), vs = [.ref a, .int i] ∧ SqL K H a (ns.map V.int) ∧ 0 ≤ i ∧ ∀ n, Q (.int n) H
abbrev N_Lcell_at : List Str := ["_law_script", "_law_at"]
theorem sc_Lcell_at : FnScope N_Lcell_at ["_law_script", "_law_at"] (defScope s_Lcell_at) := ⟨rfl, rfl, rfl, by decide +kernel, rfl, by decide +kernel, by decide +kernel⟩
theorem c_Lcell_at (T : Tx K mg) : C8.Cal P w K mg base 1 "_law_cell_at" (spCellAt K) [] := by
  refine T.cal 43 34 rfl rfl sc_Lcell_at ?_ (fun _ _ _ _ _ _ us hl => match us, hl with | [_, _], _ => rfl) ?_
  · rintro vs H Q E ⟨a, ns, i, rfl, _⟩; rfl
  · rintro cdv A outer s H vs Q E hr ⟨a, ns, i, rfl, ha, hi, h⟩
    refine ⟨_, (pss_cons (ps_if (pt_cmpR op_lt (pv 1) (pe_callB call_len_seq (by rfl) T.n_len boot_len_ (pa_cons (pv 0) pa_nil)) (nomark _)) (pss_one (ps_ret (pe_ix ix_list (pv 0) (pv 1) (fun _ _ => rfl)))) pss_nil)
      (pss_one (ps_ret pe_int))), ?_⟩
    refine ⟨_, rfl, _, rfl, a, _, rfl, .inl ha, _, _, rfl, rfl, _, rfl, ?_⟩
    by_cases c : i < ((ns.map V.int).length : Int)
    · rw [decide_eq_true c]
      obtain ⟨x, ex, mx⟩ := atI_in hi c
      obtain ⟨n, _, rfl⟩ := List.mem_map.mp mx
      exact iteT ⟨_, rfl, _, rfl, a, _, i, _, rfl, rfl, ha, ex, h n⟩
    · rw [decide_eq_false c]
      exact iteF (h 0)
def spSrcOf : Sp := fun vs H Q _ => ∃ n : Int, vs = [.int n] ∧ ∀ S, H S = none → ∀ H', Same H H' → SrcAt H' S → Q (.ref S) H'
abbrev N_Lsource_of : List Str := ["_law_cell"]
theorem sc_Lsource_of : FnScope N_Lsource_of ["_law_cell"] (defScope s_Lsource_of) := ⟨rfl, rfl, rfl, by decide +kernel, rfl, by decide +kernel, by decide +kernel⟩
theorem c_Lsource_of (T : Tx K mg) : C8.Cal P w K mg base 1 "_law_source_of" spSrcOf [] := by
  refine T.cal 44 35 rfl rfl sc_Lsource_of ?_ (fun _ _ _ _ _ _ us hl => match us, hl with | [_], _ => rfl) ?_
  · rintro vs H Q E ⟨n, rfl, _⟩; rfl
  · rintro cdv A outer s H vs Q E hr ⟨n, rfl, h⟩
    refine ⟨_, (pss_cons (ps_set (i := 0) sc_Lsource_of.nd rfl (Or.inl rfl) (pe_ifExp (pt_cmpR op_ge (pv 0) pe_int (nomark _)) (pv 0) (pe_op op_sub (pe_op op_sub pe_int (pe_op op_mul pe_int (pv 0))) pe_int)))
      (pss_one (ps_ret (pe_lst (pa_cons (pe_op op_mul (pv 0) (pe_callTy call_int1 (by rfl) T.n_int boot_int_ (pa_cons (pe_cmpR op_ge (pv 0) (pe_op op_pow pe_int pe_int) (nomark _)) pa_nil))) (pa_cons (pe_op op_mod (pe_callTy call_int1 (by rfl) T.n_int boot_int_ (pa_cons (pv 0) pa_nil)) pe_int) (pa_cons pe_int pa_nil))))))), ?_⟩
    have fin : ∀ m : Int, (∃ v, [some (V.int m)][0]? = some (some v) ∧ ∃ w, [some (V.int m)][0]? = some (some w) ∧ True) := fun m => ⟨_, rfl, _, rfl, trivial⟩
    refine ⟨_, rfl, _, _, rfl, rfl, _, rfl, ?_⟩
    by_cases c : n ≥ 0
    · rw [decide_eq_true c]
      refine iteT ⟨_, rfl, ?_⟩
      refine ⟨_, rfl, _, rfl, _, _, rfl, rfl, ⟨by decide, by decide, by decide⟩, _, _, rfl, rfl, .inr ⟨_, rfl, _, _, rfl, rfl, .inr ?_, _, rfl, .inl ⟨_, rfl, _, _, rfl, rfl, pP, by show 3 ≤ sizeLine; decide, fun S hS => h S hS _ (same_new hS) ⟨_, _, _, upd_same⟩⟩⟩⟩
      split <;> decide
    · rw [decide_eq_false c]
      refine iteF ⟨_, rfl, _, _, rfl, rfl, .inl (by decide), _, _, rfl, rfl, _, _, rfl, rfl, ?_⟩
      refine ⟨_, rfl, _, rfl, _, _, rfl, rfl, ⟨by decide, by decide, by decide⟩, _, _, rfl, rfl, .inr ⟨_, rfl, _, _, rfl, rfl, .inr ?_, _, rfl, .inl ⟨_, rfl, _, _, rfl, rfl, pP, by show 3 ≤ sizeLine; decide, fun S hS => h S hS _ (same_new hS) ⟨_, _, _, upd_same⟩⟩⟩⟩
      split <;> decide
end
end Fw



/-! What is raised, and what catches it. -/
namespace Fw
open PySem PySem.Spec PyProof.Rows L2 Rw
abbrev CW (K : PySem.W.Frag) : Addr := He.ga K "WrapError"
abbrev CB (K : PySem.W.Frag) : Addr := He.ga K "InvalidBound"
section
variable {P : Program} {w : World} {K : PySem.W.Frag} {mg : Str → Option Value} {base : Heap}
theorem Tx.axc (T : Tx K mg) : FwX.AExc K (CB K) := ⟨T.excI 0 rfl, T.excI 1 rfl, T.excI 2 rfl, isO_ok (T.excI 3 rfl), isB_ok (T.excI 4 rfl), of_decide_eq_true (T.excI 5 rfl), T.excI 6 rfl⟩
theorem Tx.noArg (T : Tx K mg) : NoAttr K (CB K) "argument" := isO_ok (T.excI 7 rfl)
theorem Tx.wRead (T : Tx K mg) : ClX.CRead K (CW K) (.type "type") := ⟨T.excI 10 rfl, isO_ok (T.excI 11 rfl)⟩
theorem Tx.wInit (T : Tx K mg) : PySem.W.findCls K (.ref (CW K)) (.type "type") "__init__" = some (.val (.builtin "ArithmeticError.__init__")) := by
  have h := T.excI 12 rfl
  split at h
  · rename_i n e
    rw [e, of_decide_eq_true h]
  · cases h
theorem Tx.said (T : Tx K mg) : FwL.SaidT K mg (CW K) (CB K) (He.ga K "InvalidKind") (He.ga K "InvalidCall") (He.ga K "LimitExceeded") :=
  ⟨T.g_WrapError, T.g_InvalidBound, T.g_InvalidKind, T.g_InvalidCall, T.g_LimitExceeded, T.n_isinstance, T.n_ArithmeticError, isB_ok (T.excI 13 rfl), isB_ok (T.excI 14 rfl), isB_ok (T.excI 15 rfl), isB_ok (T.excI 16 rfl), isB_ok (T.excI 17 rfl), isB_ok (T.excI 18 rfl),
    ⟨isO_ok (T.excI 19 rfl), isO_ok (T.excI 20 rfl), isB_ok (T.excI 4 rfl), T.excI 2 rfl⟩, T.noArg, ⟨T.excI 23 rfl, isO_ok (T.excI 19 rfl), isO_ok (T.excI 20 rfl), isB_ok (T.excI 4 rfl), isO_ok (T.excI 21 rfl), isO_ok (T.insI 1 rfl), isB_ok (T.insI 2 rfl), isB_ok (T.excI 22 rfl)⟩⟩
def spIB (K : PySem.W.Frag) : Sp := fun vs H Q _ => ∃ (a : Addr) (x : V), vs = [.ref a, x] ∧ H a = some (exo a (CB K) none) ∧ ∀ dx, H dx = none → dx ≠ a → Q .non (upd (upd H dx (exd dx [("argument", x)])) a (exo a (CB K) (some dx)))
abbrev N_IB : List Str := ["self", "argument"]
theorem sc_IB : FnScope N_IB ["self", "argument"] (defScope s_InvalidBound_init) := ⟨rfl, rfl, rfl, by decide +kernel, rfl, by decide +kernel, by decide +kernel⟩
theorem f_IB (T : Tx K mg) : ∃ fd, FnOk P w K mg base C8.CX0 1 (He.ma K (CB K) "__init__") fd ["self", "argument"] (spIB K) ∧ Binds K fd ["self", "argument"] [] := by
  obtain ⟨fd, F⟩ := T.says.def_ 1 rfl
  have F' : FunD K "__init__" "InvalidBound.__init__" (defArgs s_InvalidBound_init) (defBody s_InvalidBound_init) (defScope s_InvalidBound_init) [] [] (He.ma K (CB K) "__init__") fd := F
  refine ⟨fd, F'.ok sc_IB (fun vs H Q E h => by obtain ⟨a, x, rfl, _⟩ := h; rfl) fun cdv A outer s H vs Q E hr h => ?_, F'.bindsN (fun _ _ _ _ _ _ us hl => match us, hl with | [_, _], _ => rfl)⟩
  obtain ⟨a, x, rfl, ha, h⟩ := h
  refine ⟨_, pss_cons (ps_expr (FwX.pe_init rfl T.g_WrapError T.wRead T.wInit (pa_cons (pv 0) (pa_cons pe_str pa_nil)))) (pss_one (FwX.ps_field (pv 0) (pv 1) rfl)), ?_⟩
  refine ⟨_, rfl, a, CB K, _, rfl, by show 1 ≤ 1000; decide, T.axc, ha, ?_⟩
  exact ⟨_, rfl, _, rfl, a, CB K, rfl, T.axc, T.noArg, ha, fun dx hd hne => h dx hd hne⟩
/-- a def that may raise, called by its name -/
def CalX (P : Program) (w : World) (K : PySem.W.Frag) (mg : Str → Option Value) (base : Heap) (k : Nat) (x : Str) (sp : Sp) : Prop := ∃ (f : Addr) (fd : FuncData) (ps : List Str), FnOk P w K mg base (L2.CX P w) k f fd ps sp ∧ mg x = some (.ref f) ∧ PySem.W.keepIn K (.ref f) = true ∧ Binds K fd ps []
theorem pe_cx {X : Cx} {k j : Nat} {x : Str} {sp : Sp} {E : XK} {p pos : Pos} {e : Expr} {es : List Expr} {t : TA} (c : CalX X.prog X.w X.K X.mg X.base k x sp) (hr : Room j X.A) (hk : k ≤ j) (hg : Gl X x) (ha : PA X (e :: es) t) (hx : Passes (L2.CX X.prog X.w) X E)
    (hdb : (x == ("__debug__" : Str)) = false := by decide) (he : starEach (e :: es) X.env = (false, eval e X.env) :: starEach es X.env := by rfl) (hpl : (backTo pos (starEach es X.env)).any (·.1) = false := by rfl) :
    PE X (.Call (.Name x p) (e :: es) [] pos) (tCall sp [] E t) := by
  obtain ⟨f, fd, ps, F, hm, kp, b⟩ := c
  exact pe_call F (hr.mono hk) hg hm kp b .nil hx ha hdb he hpl
theorem Tx.calX (T : Tx K mg) (i j : Nat) {x : Str} {st : Stmt} {N ps : List Str} {k : Nat} {sp : Sp} (hi : fn[i]? = some (mkD x st)) (hj : fa[j]? = some (.glo x)) (S : FnScope N ps (defScope st)) (len : ∀ vs H Q E, sp vs H Q E → vs.length = ps.length)
    (bnd : ∀ (kV doc pm : Value) (an : Option Addr) (cdv ct : Value) (us : List Value), us.length = ps.length → bindArgs (PySem.W.fnOf x x (defArgs st) (defBody st) (defScope st) .none kV doc pm an cdv ct) ⟨us, []⟩ = pure (ps.zip us))
    (hbody : ∀ (cdv : Value) (A : Around) (outer : List Env) (s : Shared) (H : Hp) (vs : List V) (Q : VK) (E : XK), Room k (A.deeper (envOfC x (defScope st) s.heap.objs.size (He.ga K x) cdv)) → sp vs H Q E →
      ∃ t, PSs (cxOf (L2.CX P w) P w K mg base N x (defScope st) (He.ga K x) cdv A outer s H E) (defBody st) t ∧ t { nx := fun _ H' => Q .non H', rt := Q } (start N vs) H) : CalX P w K mg base (k + 1) x sp := by
  obtain ⟨fd, F⟩ := T.says.def_ i hi
  have F' : FunD K x x (defArgs st) (defBody st) (defScope st) [] [] (He.ga K x) fd := F
  exact ⟨_, fd, ps, F'.ok S len fun cdv A outer s H vs Q E hr h => hbody cdv A outer s H vs Q E hr h, T.glo j hj, F'.kp, F'.bindsN bnd⟩
def spBetR (K : PySem.W.Frag) : Sp := fun vs H _ E => ∃ (x : V) (n lo hi : Int), vs = [x, .int n, .int lo, .int hi] ∧ ¬ (lo ≤ n ∧ n ≤ hi) ∧ ∀ dd H', Same H H' → H' dd = some (.xd [("argument", x)]) → E (.ref (CB K)) (some dd) H'
theorem x_check_between (T : Tx K mg) : CalX P w K mg base 3 "check_between" (spBetR K) := by
  have c_is_between : C8.Cal P w K mg base 2 "is_between" spBetween [] := c_is_between T
  refine T.calX 7 8 rfl rfl sc_check_between ?_ (fun _ _ _ _ _ _ us hl => match us, hl with | [_, _, _, _], _ => rfl) ?_
  · rintro vs H Q E ⟨x, n, lo, hi, rfl, _⟩; rfl
  · rintro cdv A outer s H vs Q E hr ⟨x, n, lo, hi, rfl, hn, h⟩
    obtain ⟨fd, G, hb⟩ := f_IB (P := P) (w := w) (base := base) T
    refine ⟨_, pss_one (ps_if (pt_not (pt_val (C8.pe_c c_is_between hr (by decide) rfl (pa_cons (pv 1) (pa_cons (pv 2) (pa_cons (pv 3) pa_nil)))))) (pss_one (ps_raise rfl (takes_of rfl rfl rfl rfl) (FwX.pmk_ax T.axc (isO_ok (T.excI 8 rfl)) (of_decide_eq_true (T.excI 9 rfl)) G (hr.mono (by decide)) hb .nil C8.pass0 rfl T.g_InvalidBound (pa_cons (pv 0) pa_nil)))) pss_nil), ?_⟩
    refine ⟨_, rfl, _, rfl, _, rfl, n, lo, hi, rfl, false, ?_, iteT ?_⟩
    · by_cases c1 : lo ≤ n
      · rw [decide_eq_true c1, decide_eq_false (fun z => hn ⟨c1, z⟩)]; rfl
      · rw [decide_eq_false c1]; rfl
    refine ⟨_, rfl, by show 1 ≤ 1000; decide, fun a ha => ?_⟩
    refine ⟨a, x, rfl, upd_same, fun dx hd hne => ⟨rfl, dx, [("argument", x)], upd_same, ?_, ?_, ?_⟩⟩
    · rw [upd_ne hne]; exact upd_same
    · rw [upd_ne hne] at hd; exact hd
    · rw [upd_ne hne] at hd
      refine h dx _ (fun b o e => ?_) upd_same
      have nb : b ≠ a := ne_of_none e ha
      have nd : b ≠ dx := ne_of_none e hd
      rw [upd_ne nd]
      unfold del
      rw [if_neg nb, upd_ne nb, upd_ne nd, upd_ne nb]
      exact e
def spOAtR (K : PySem.W.Frag) : Sp := fun vs H _ E => ∃ (v u : V) (k : Kd) (ks : List Kd) (y j : Int), vs = [v, u, .int y, .int j] ∧ KiAt K H v k ∧ k.Ok ∧ KsAt K H u ks ∧ RowOk ks ∧ tot k (effOf (k :: ks)) y ≤ j ∧ ∀ dd H', Same H H' → H' dd = some (.xd [("argument", .str "j")]) → E (.ref (CB K)) (some dd) H'
theorem x_origin_at (T : Tx K mg) : CalX P w K mg base 6 "origin_at" (spOAtR K) := by
  have x_check_between : CalX P w K mg base 3 "check_between" (spBetR K) := x_check_between T
  have c_origin_total : C8.Cal P w K mg base 5 "origin_total" (spTot K) [] := c_origin_total T
  refine T.calX 31 26 rfl rfl sc_origin_at ?_ (fun _ _ _ _ _ _ us hl => match us, hl with | [_, _, _, _], _ => rfl) ?_
  · rintro vs H Q E ⟨v, u, k, ks, y, j, rfl, _⟩; rfl
  · rintro cdv A outer s H vs Q E hr ⟨v, u, k, ks, y, j, rfl, hv, hk, hu, hro, hj, h⟩
    refine ⟨_, pss_cons (ps_expr (pe_cx x_check_between hr (by decide) rfl (pa_cons pe_str (pa_cons (pv 3) (pa_cons pe_int (pa_cons (pe_op op_sub (C8.pe_c c_origin_total hr (by decide) rfl (pa_cons (pv 0) (pa_cons (pv 1) (pa_cons (pv 2) pa_nil)))) pe_int) pa_nil)))) (passes_call (E := E) (takes_of rfl rfl rfl rfl) fun _ _ _ _ z => z))) pss_never, ?_⟩
    refine ⟨_, rfl, _, rfl, _, rfl, _, rfl, v, u, k, ks, y, rfl, hv, hk, hu, hro, fun H1 s1 => ?_⟩
    refine ⟨_, _, rfl, rfl, _, _, _, _, rfl, fun z => absurd z.2 (by omega), fun dd H' s' hd => h dd H' (s1.trans s') hd⟩
end
end Fw



/-! _law_kept_right. -/
namespace Fw
open PySem PySem.Spec PyProof.Rows L2 Rw
theorem fn_cast {k : Kd} {ks : List Kd} (hk : k.Ok) (h : ∀ j ∈ ks, j.Ok) (n : Int) : (effOf (k :: ks)).fn n = castL (k :: ks) n := effOf_fn (by simp) (by
  intro j m
  cases m with
  | head => exact hk
  | tail _ m => exact h j m) n
theorem cast_in {k : Kd} {ks : List Kd} {n : Int} (h0 : Rw.lo k ≤ n) (h1 : n ≤ Rw.hi k) : castL (k :: ks) n = castL ks n := by
  rw [castL_cons, put_self h0 (by unfold Rw.hi at h1; omega)]
theorem rs_same {a ys zs : List (Int × Int)} (h1 : ys.Perm a) (h2 : zs.Perm a) (l1 : ys.Pairwise lexLe) (l2 : zs.Pairwise lexLe) : ys = zs := sorted_same (h1.trans h2.symm) l1 l2
section
variable {P : Program} {w : World} {K : PySem.W.Frag} {mg : Str → Option Value} {base : Heap}
def spLaw3 : Sp := fun vs H Q _ => ∃ (S : Addr) (v u : V) (k : Kd) (ks : List Kd), vs = [.ref S, v, u] ∧ SrcAt H S ∧ ShAt H v k ∧ k.Ok ∧ RwsAt H u ks ∧ RowOk ks ∧ ∀ H', SamX S H H' → SrcAt H' S → Q (.bl true) H'
theorem rws_mono {H H' : Hp} {v : V} {ks : List Kd} (s : Same H H') (h : RwsAt H v ks) : RwsAt H' v ks := LsAt.mono ShAt.mono _ _ _ _ s h
theorem sh_mono {H H' : Hp} {v : V} {k : Kd} (s : Same H H') (h : ShAt H v k) : ShAt H' v k := ShAt.mono _ _ _ _ s h
abbrev N_Lkept_right : List Str := ["_law_source", "_law_shape_here", "_law_rows_here", "_law_mine", "_law_plan", "_law_told", "_law_low", "_law_high", "_law_first", "_law_last", "_law_sizes", "_law_n", "_law_some_here"]
theorem sc_Lkept_right : FnScope N_Lkept_right ["_law_source", "_law_shape_here", "_law_rows_here"] (defScope s_Lkept_right) := ⟨rfl, rfl, rfl, by decide +kernel, rfl, by decide +kernel, by decide +kernel⟩
theorem c_Lkept_right (T : Tx K mg) : C8.Cal P w K mg base 7 "_law_kept_right" spLaw3 [] := by
  have k_Kind : C8.Mak P w K mg base 3 "Kind" (CK K) (spKiInit K) [] := k_Kind T
  have c_Lmade : C8.Cal P w K mg base 5 "_law_made" (spMade K) [] := c_Lmade T
  have c_survivors : C8.Cal P w K mg base 5 "survivors" (spSurv K) [] := c_survivors T
  have c_survivor_total : C8.Cal P w K mg base 6 "survivor_total" (spSurvT K) [] := c_survivor_total T
  have c_Lrange : C8.Cal P w K mg base 1 "_law_range" spRange [] := c_Lrange T
  have c_Lcast : C8.Cal P w K mg base 2 "_law_cast" spLcast [] := c_Lcast T
  have c_Lsome : C8.Cal P w K mg base 3 "_law_some" spSome [] := c_Lsome T
  have c_Lis_within : C8.Cal P w K mg base 1 "_law_is_within" spWithin [] := c_Lis_within T
  refine T.cal 58 49 rfl rfl sc_Lkept_right ?_ (fun _ _ _ _ _ _ us hl => match us, hl with | [_, _, _], _ => rfl) ?_
  · rintro vs H Q E ⟨S, v, u, k, ks, rfl, _⟩; rfl
  · rintro cdv A outer s H vs Q E hr ⟨S, v, u, k, ks, rfl, hS, hv, hk, hu, hro, h⟩
    refine ⟨_, (pss_cons (ps_par (i := 3) (j := 4) rfl sc_Lkept_right.nd rfl rfl (by decide) rfl rfl (pa_cons (C8.pe_mk k_Kind hr (by decide) rfl (pa_cons (pe_ix ix_tup (pv 1) pe_int (fun _ _ => rfl)) (pa_cons (pe_ix ix_tup (pv 1) pe_int (fun _ _ => rfl)) pa_nil))) (pa_cons (C8.pe_c c_Lmade hr (by decide) rfl (pa_cons (pv 2) pa_nil)) pa_nil)) (by rfl))
      (pss_cons (ps_asg (pe_tup (pa_cons (C8.pe_c c_survivors hr (by decide) rfl (pa_cons (pv 3) (pa_cons (pv 4) pa_nil))) (pa_cons (C8.pe_c c_Lrange hr (by decide) rfl (pa_cons (pv 1) pa_nil)) pa_nil))) (pg_tup rfl (pgs_cons (pg_name (i := 5) sc_Lkept_right.nd rfl (Or.inr rfl)) (pgs_cons (pg_tup rfl (pgs_cons (pg_name (i := 6) sc_Lkept_right.nd rfl (Or.inl rfl)) (pgs_cons (pg_name (i := 7) sc_Lkept_right.nd rfl (Or.inl rfl)) pgs_nil))) pgs_nil))))
      (pss_cons (ps_setLc (i := 10) (own := [("_law_first", 8), ("_law_last", 9)]) (g := gTup K 2 (gCons (gName 8) (gCons (gName 9) gNil))) (tt := (tYes)) (te := (_)) rfl sc_Lkept_right.nd rfl rfl (sw_true rfl rfl rfl (by decide +kernel)) (pi_list (pv 5)) (blkOk_by (own := [("_law_first", 8), ("_law_last", 9)]) (N := N_Lkept_right) (sc := (defScope s_Lkept_right)) (by decide +kernel)) (fun _ _ _ _ _ => (pg_tup rfl (pgs_cons (pg_name (i := 8) sc_Lkept_right.nd rfl (Or.inl rfl)) (pgs_cons (pg_name (i := 9) sc_Lkept_right.nd rfl (Or.inl rfl)) pgs_nil)))) (fun _ _ _ _ _ => pts_nil) (fun _ _ _ _ _ => (pe_op op_add (pe_op op_sub (pv 9) (pv 8)) pe_int)))
      (pss_cons (ps_if (PW.pt (pw_or (pt_cmpR (op_neD hr.units) (pv 5) (pe_callB cr_sortedPO (by rfl) T.n_sorted boot_sorted_ (pa_cons (pv 5) pa_nil)) (nomark _)) (pw_or1 (pt_cmpR op_nei (pe_callB (cr_sum rfl) (by rfl) T.n_sum boot_sum_ (pa_cons (pv 10) pa_nil)) (C8.pe_c c_survivor_total hr (by decide) rfl (pa_cons (pv 3) (pa_cons (pv 4) pa_nil))) (nomark _))))) (pss_one (ps_ret pe_bl)) pss_nil)
      (pss_cons (ps_for PassesOwn.never rfl (pi_list (pv 5)) (pg_tup rfl (pgs_cons (pg_name (i := 8) sc_Lkept_right.nd rfl (Or.inl rfl)) (pgs_cons (pg_name (i := 9) sc_Lkept_right.nd rfl (Or.inl rfl)) pgs_nil)))
        (pss_cons (ps_if (PW.pt (pw_or (pt_cmpR op_gt (pv 8) (pv 9) (nomark _)) (pw_or (pt_cmpR op_nei (C8.pe_c c_Lcast hr (by decide) rfl (pa_cons (pv 2) (pa_cons (pv 8) pa_nil))) (pv 8) (nomark _)) (pw_or1 (pt_cmpR op_nei (C8.pe_c c_Lcast hr (by decide) rfl (pa_cons (pv 2) (pa_cons (pv 9) pa_nil))) (pv 9) (nomark _)))))) (pss_one (ps_ret pe_bl)) pss_nil)
          (pss_one (ps_for PassesOwn.never rfl (pi_tup (pe_tup (pa_cons (pe_op op_sub (pv 8) pe_int) (pa_cons (pe_op op_add (pv 9) pe_int) pa_nil)))) (pg_name (i := 11) sc_Lkept_right.nd rfl (Or.inl rfl))
            (pss_one (ps_if (PW.pt (pw_and (pt_chain op_le op_le (pv 6) (pv 11) (pv 7)) (pw_and1 (pt_cmpR op_eqi (C8.pe_c c_Lcast hr (by decide) rfl (pa_cons (pv 2) (pa_cons (pv 11) pa_nil))) (pv 11) (nomark _))))) (pss_one (ps_ret pe_bl)) pss_nil))))))
      (pss_cons (ps_set (i := 12) sc_Lkept_right.nd rfl (Or.inl rfl) (C8.pe_c c_Lsome hr (by decide) rfl (pa_cons (pv 0) (pa_cons (pv 1) pa_nil))))
      (pss_one (ps_ret (pe_cmpR (op_eqD hr.units) (pe_lc (own := [("_law_n", 11)]) (g := gName 11) (tt := (_)) (te := (_)) rfl sc_Lkept_right.nd (pi_list (pv 12)) (blkOk_by (own := [("_law_n", 11)]) (N := N_Lkept_right) (sc := (defScope s_Lkept_right)) (by decide +kernel)) (fun _ _ _ _ _ => (pg_name (i := 11) sc_Lkept_right.nd rfl (Or.inl rfl))) (fun _ _ _ _ _ => (pts_one (pt_cmpR op_ne (C8.pe_c c_Lis_within hr (by decide) rfl (pa_cons (pv 5) (pa_cons (pv 11) pa_nil))) (pe_cmpR op_eqi (C8.pe_c c_Lcast hr (by decide) rfl (pa_cons (pv 2) (pa_cons (pv 11) pa_nil))) (pv 11) (nomark _)) (nomark _)))) (fun _ _ _ _ _ => (pv 11))) (pe_lst pa_nil) (nomark _)))))))))), ?_⟩
    obtain ⟨p, rfl, hp⟩ := hv
    have hoks := hro.2.2
    refine ⟨_, rfl, p, _, _, _, rfl, rfl, SqT.of hp, rfl, _, rfl, p, _, _, _, rfl, rfl, SqT.of hp, rfl, ?_⟩
    intro x dx hx hd hne
    refine make_kind (k := k) hx hd hne hk fun H1 s1 hx1 => ?_
    refine ⟨_, rfl, u, ks, rfl, rws_mono s1 hu, hoks, by have := hro.2.1; omega, fun pl H2 s2 hpl => ⟨_, _, rfl, ?_⟩⟩
    have s12 := s1.trans s2
    refine ⟨_, rfl, _, rfl, _, pl, k, ks, rfl, ki_mono s2 hx1, hk, hpl, hro, fun tl H3 ys s3 hperm hlex htl => ?_⟩
    have s13 := s12.trans s3
    refine ⟨_, rfl, _, k, rfl, ⟨p, rfl, s13 _ _ hp⟩, hk, fun rg H4 s4 hrg => ?_⟩
    have s14 := s13.trans s4
    obtain ⟨q, rfl, hq⟩ := hrg
    refine ⟨by show 2 ≤ sizeLine; decide, fun t ht => ⟨t, _, rfl, SqT.of upd_same, rfl, _, _, rfl, _, _, rfl, ⟨q, _, rfl, SqT.of (same_new ht _ _ hq), rfl, _, _, rfl, _, _, rfl, rfl, ?_⟩⟩⟩
    refine ⟨rfl, ?_⟩
    have ho := eff_kd hk hro
    have htold := told_survivors (k := k) ho hperm hlex
    have st : Same H4 (upd H4 t (.tup [tl, .ref q])) := same_new ht
    have s15 := s14.trans st
    have htl5 := rs_mono (s4.trans st) htl
    have hx5 := ki_mono ((s2.trans s3).trans (s4.trans st)) hx1
    have hpl5 := ks_mono (s3.trans (s4.trans st)) hpl
    generalize hl : joinR ys = l at htl5 htold
    generalize upd H4 t (.tup [tl, .ref q]) = H5 at *
    obtain ⟨a, us, rfl, ha, hus⟩ := htl5
    have hll : l.length ≤ 2 := by
      have h1 := joinR_len ys
      have h2 := hperm.length_eq
      simp at h2
      rw [hl] at h1
      omega
    have S_in : ∀ n, Rw.lo k ≤ n → n ≤ Rw.hi k → ((∃ p ∈ l, Rw.inR p n) ↔ castL ks n = n) := fun n n0 n1 => by
      rw [← htold.iff n, fn_cast hk hoks, cast_in n0 n1]
      exact ⟨fun z => z.2, fun z => ⟨⟨n0, n1⟩, z⟩⟩
    have S_of : ∀ n, ¬ ((Rw.lo k ≤ n ∧ n ≤ Rw.hi k) ∧ (effOf (k :: ks)).fn n = n) → Rw.lo k ≤ n → n ≤ Rw.hi k → castL ks n ≠ n := fun n z n0 n1 c => by
      refine z ⟨⟨n0, n1⟩, ?_⟩
      rw [fn_cast hk hoks, cast_in n0 n1]
      exact c
    refine ⟨_, rfl, a, rfl, ⟨_, SqL.of ha⟩, fun D hD => lc_new (K := K) sta_i (l.map fun p => p.2 - p.1 + 1) (by rw [List.length_map]; exact PySem.Paired.length hus) (by simp; omega) hD (SqL.of ha) (fun i x H' hi s' Q' c => ?_) (fun bs H6 s6 hd hb => ?_)⟩
    · obtain ⟨z, hz, q, rfl, hq⟩ := Paired.get hus hi
      refine ⟨q, _, rfl, SqT.of (s' _ _ hq), rfl, _, _, rfl, _, _, rfl, rfl, rfl, ?_⟩
      refine ⟨_, rfl, _, rfl, _, _, rfl, rfl, _, _, rfl, rfl, ?_⟩
      exact c _ _ _ (by rw [List.getElem?_map, hz]; rfl) (Same.refl _) rfl
    have hus6 := sta_rg.same s6 hus
    have ha6 := s6 _ _ ha
    refine ⟨_, rfl, _, rfl, a, us, rgOf H6, rfl, SqL.of ha6, fun x m => ?_, fun zs q hs ht hq => ?_⟩
    · obtain ⟨z, _, hz⟩ := paired_mem hus6 x m
      rw [rgOf_at hz]
      exact hz
    obtain ⟨zz, hzz, hperm2, hlex2⟩ := sorted_rgs hus6 hs ht
    have ezz : zz = l := sorted_same hperm2 hlex2 htold.lex
    subst ezz
    have s7 : Same H6 (upd H6 q (.lst zs)) := same_new hq
    refine ⟨_, _, dp_rgs ⟨a, us, rfl, s7 _ _ ha6, sta_rg.same s7 hus6⟩, dp_rgs ⟨q, zs, rfl, upd_same, sta_rg.same s7 hzz⟩, shaped_pDs _, shaped_pDs _, _, rfl, ?_⟩
    rw [eqv_list pD eqv_pD, decide_eq_true rfl]
    refine iteF ⟨_, rfl, D, _, rfl, SqL.of (by rw [s7 _ _ hd, ints_of hb]), ?_⟩
    have s57 := s6.trans s7
    refine ⟨_, rfl, _, rfl, _, pl, k, ks, rfl, ki_mono s57 hx5, hk, ks_mono s57 hpl5, hro, fun H8 ys2 s8 hperm3 hlex3 => ⟨_, _, rfl, rfl, _, rfl, ?_⟩⟩
    have eys : ys2 = ys := rs_same hperm3 hperm hlex3 hlex
    subst eys
    rw [hl]
    have esz : (zz.map fun p => p.2 - p.1 + 1).sum = sizes zz := rfl
    rw [decide_eq_true esz]
    refine iteF ?_
    have s08 := s15.trans (s57.trans s8)
    have ha8 := s8 _ _ (s7 _ _ ha6)
    have hus8 := sta_rg.same (s57.trans s8) hus
    refine ⟨_, rfl, a, rfl, ⟨_, SqL.of ha8⟩, for_list (K := K) (a := a) (xs := us) (fun i σ H' => Same H8 H' ∧ ∃ o8 o9 o11, σ = [some (.ref S), some (.ref p), some u, some (.ref x), some pl, some (.ref a), some (.int (Rw.lo k)), some (.int (Rw.hi k)), o8, o9, some (.ref D), o11, none]) ⟨Same.refl _, none, none, none, rfl⟩ (fun i σ H' _ z => SqL.of (z.1 _ _ ha8)) ?_ ?_⟩
    · rintro i y σ H9 hi ⟨s9, o8, o9, o11, rfl⟩
      obtain ⟨z, hz, tz, rfl, htz⟩ := Paired.get hus8 hi
      have hzm := List.mem_of_getElem? hz
      have s09 := s08.trans s9
      have hz12 := htold.ne z hzm
      obtain ⟨b1, b2, b3, b4⟩ := htold.beside hzm
      have c1 : castL ks z.1 = z.1 := (S_in _ b1.1.1 b1.1.2).mp ⟨z, hzm, Int.le_refl _, hz12⟩
      have c2 : castL ks z.2 = z.2 := (S_in _ b2.1.1 b2.1.2).mp ⟨z, hzm, hz12, Int.le_refl _⟩
      refine ⟨tz, _, rfl, SqT.of (s9 _ _ htz), rfl, _, _, rfl, _, _, rfl, rfl, ?_⟩
      refine ⟨_, rfl, _, rfl, _, _, rfl, rfl, _, rfl, ?_⟩
      rw [decide_eq_false (by omega : ¬ z.1 > z.2)]
      refine iteF ⟨_, rfl, _, rfl, u, ks, z.1, rfl, rws_mono s09 hu, hoks, _, rfl, _, _, rfl, rfl, _, rfl, ?_⟩
      rw [c1, decide_eq_true rfl]
      refine iteF ⟨_, rfl, _, rfl, u, ks, z.2, rfl, rws_mono s09 hu, hoks, _, rfl, _, _, rfl, rfl, _, rfl, ?_⟩
      rw [c2, decide_eq_true rfl]
      refine iteF ?_
      refine ⟨_, rfl, _, _, rfl, rfl, _, rfl, _, _, rfl, rfl, by show 2 ≤ sizeLine; decide, fun t2 ht2 => ?_⟩
      have s10 : Same H9 (upd H9 t2 (.tup [.int (z.1 - 1), .int (z.2 + 1)])) := same_new ht2
      refine ⟨t2, rfl, ⟨_, SqT.of upd_same⟩, for_tup (K := K) (a := t2) (xs := [V.int (z.1 - 1), V.int (z.2 + 1)]) (fun i σ H' => Same (upd H9 t2 (.tup [.int (z.1 - 1), .int (z.2 + 1)])) H' ∧ ∃ o11, σ = [some (.ref S), some (.ref p), some u, some (.ref x), some pl, some (.ref a), some (.int (Rw.lo k)), some (.int (Rw.hi k)), some (.int z.1), some (.int z.2), some (.ref D), o11, none]) ⟨Same.refl _, o11, rfl⟩ (fun i σ H' _ z => SqT.of (z.1 _ _ upd_same)) ?_ ?_⟩
      · rintro j y σ H11 hj ⟨s11, o11', rfl⟩
        have hy : ∃ n, y = .int n ∧ (Rw.lo k ≤ n → n ≤ Rw.hi k → castL ks n ≠ n) := by
          match j, hj with
          | 0, hj => cases hj; exact ⟨_, rfl, S_of _ b3⟩
          | 1, hj => cases hj; exact ⟨_, rfl, S_of _ b4⟩
        obtain ⟨n, rfl, hn⟩ := hy
        refine ⟨_, rfl, _, rfl, _, _, rfl, rfl, _, rfl, ?_⟩
        by_cases d1 : Rw.lo k ≤ n
        · rw [decide_eq_true d1]
          refine iteT ⟨_, rfl, _, _, rfl, rfl, _, rfl, ?_⟩
          by_cases d2 : n ≤ Rw.hi k
          · rw [decide_eq_true d2]
            refine iteT ⟨_, rfl, _, rfl, u, ks, n, rfl, rws_mono ((s09.trans s10).trans s11) hu, hoks, _, rfl, _, _, rfl, rfl, _, rfl, ?_⟩
            rw [decide_eq_false (hn d1 d2)]
            exact iteF ⟨s11, _, rfl⟩
          · rw [decide_eq_false d2]
            exact iteF (iteF ⟨s11, _, rfl⟩)
        · rw [decide_eq_false d1]
          exact iteF ⟨false, rfl, iteF (iteF ⟨s11, _, rfl⟩)⟩
      · rintro σ H11 ⟨s11, o11', rfl⟩
        exact ⟨(s9.trans s10).trans s11, _, _, _, rfl⟩
    · rintro σ H9 ⟨s9, o8, o9, o11, rfl⟩
      have s09 := s08.trans s9
      refine ⟨_, rfl, _, rfl, S, _, k, rfl, src_same s09 hS, ⟨p, rfl, s09 _ _ hp⟩, hk, fun tn H10 ns hlen hin sx hS10 htn => ?_⟩
      have hS9 := src_same s09 hS
      obtain ⟨b, vs, rfl, hb, hvs⟩ := htn
      have hu10 := ref_sh.ls hS9 sx (rws_mono s09 hu)
      have htl10 : RsAt H10 (.ref a) zz := ref_rg.ls hS9 sx ⟨a, us, rfl, s9 _ _ ha8, sta_rg.same s9 hus8⟩
      refine ⟨_, rfl, b, rfl, ⟨_, SqL.of hb⟩, fun D2 hD2 => lc_fil (K := K) ns (fun n => !decide (V.bl (inRs zz n) = V.bl (decide (castL ks n = n)))) V.int (fun n => [some (.ref S), some (.ref p), some u, some (.ref x), some pl, some (.ref a), some (.int (Rw.lo k)), some (.int (Rw.hi k)), o8, o9, some (.ref D), some (.int n), some (.ref b)]) (PySem.Paired.length hvs) (by omega) hD2 (SqL.of hb) (fun i y n H' kk hi hn s' hkk => ?_) (fun _ => rfl) (fun n H' Q' _ s' c => ?_) (fun n H' Q' _ s' c => ⟨_, rfl, c⟩) (fun H11 s11 hd11 => ?_)⟩
      · obtain ⟨n', hn', rfl⟩ := Paired.get hvs hi
        have : n = n' := Option.some.inj (hn.symm.trans hn')
        subst this
        exact hkk
      · refine ⟨_, rfl, _, rfl, _, zz, n, rfl, rs_mono s' htl10, by omega, fun H12 s12' => ?_⟩
        refine ⟨_, rfl, _, rfl, u, ks, n, rfl, rws_mono (s'.trans s12') hu10, hoks, _, rfl, _, _, rfl, rfl, rfl, _, rfl, c _ s12'⟩
      · have hfil : ns.filter (fun n => !decide (V.bl (inRs zz n) = V.bl (decide (castL ks n = n)))) = [] := by
          rw [List.filter_eq_nil_iff]
          intro n hn
          obtain ⟨n0, n1⟩ := hin n hn
          have e : inRs zz n = decide (castL ks n = n) := by
            by_cases c : castL ks n = n
            · rw [decide_eq_true c]
              exact inRs_iff.mpr ((S_in n n0 n1).mpr c)
            · rw [decide_eq_false c]
              refine Bool.eq_false_iff.mpr fun z => c ?_
              exact (S_in n n0 n1).mp (inRs_iff.mp z)
          rw [e]
          simp
        rw [hfil] at hd11
        refine ⟨by show 0 ≤ sizeLine; decide, fun e he => ⟨_, _, dp_nil (same_new he _ _ hd11), dp_nil upd_same, shaped_pDs [], shaped_pDs [], ?_⟩⟩
        refine h _ ((SamX.of s09).trans (sx.trans ((SamX.of s11).trans (SamX.of (same_new he))))) (src_same (s11.trans (same_new he)) hS10)
end
end Fw



/-! _law_apart_right. -/
namespace Fw
open PySem PySem.Spec PyProof.Rows L2 Rw
theorem ind_congr {p q : Prop} [Decidable p] [Decidable q] (h : p ↔ q) : ind p = ind q := by
  by_cases c : p
  · rw [ind_t c, ind_t (h.mp c)]
  · rw [ind_f c, ind_f (fun z => c (h.mpr z))]
theorem Cnt.to {low : Int} {f g : Int → Prop} [DecidablePred f] [DecidablePred g] {c : Int → Int} (h : Cnt low f c) (e : ∀ n, f n ↔ g n) : Cnt low g c := ⟨h.low, fun n => by rw [h.step n, ind_congr (e n)]⟩
/-- the two rows give different numbers -/
abbrev Dif (k : Kd) (ks js : List Kd) (n : Int) : Prop := castL (k :: ks) n ≠ castL (k :: js) n
theorem cA2_cnt {k : Kd} {ks js : List Kd} (hk : k.Ok) (h1 : RowOk ks) (h2 : RowOk js) : Cnt (Rw.lo k) (Dif k ks js) (cA2 k ks js) := by
  obtain ⟨o1, o2⟩ := a_ok (eff_kd hk h1) (eff_kd hk h2)
  have h := cnt_apart o1 o2 (a_le (effOf (k :: ks)) (effOf (k :: js))) (Rw.lo k)
  refine Cnt.to (c := cA2 k ks js) h fun n => ?_
  unfold Dif
  rw [← fn_cast hk h1.2.2, ← fn_cast hk h2.2.2]
  unfold aLess aMore
  split
  · exact ⟨fun z w => z w.symm, fun z w => z w.symm⟩
  · exact Iff.rfl
theorem Cnt.swap {k : Kd} {ks js : List Kd} {c : Int → Int} (h : Cnt (Rw.lo k) (Dif k ks js) c) : Cnt (Rw.lo k) (Dif k js ks) c := Cnt.to h fun n => ⟨fun z w => z w.symm, fun z w => z w.symm⟩
theorem dif_in {k : Kd} {ks js : List Kd} {n : Int} (h0 : Rw.lo k ≤ n) (h1 : n ≤ Rw.hi k) : Dif k ks js n ↔ castL ks n ≠ castL js n := by
  unfold Dif
  rw [cast_in h0 h1, cast_in h0 h1]
theorem hi_top (k : Kd) : Rw.hi k + 1 = Rw.lo k + P2 k.w := by unfold Rw.hi; omega
theorem exists_min : ∀ (l : List Int), l ≠ [] → ∃ m ∈ l, ∀ y ∈ l, m ≤ y
  | [], h => absurd rfl h
  | [x], _ => ⟨x, by simp, by simp⟩
  | x :: y :: l, _ => by
    obtain ⟨m, hm, h⟩ := exists_min (y :: l) (by simp)
    by_cases c : x ≤ m
    · refine ⟨x, by simp, fun z hz => ?_⟩
      rcases List.mem_cons.mp hz with rfl | hz
      · omega
      · have := h z hz; omega
    · refine ⟨m, List.mem_cons_of_mem _ hm, fun z hz => ?_⟩
      rcases List.mem_cons.mp hz with rfl | hz
      · omega
      · exact h z hz
section
variable {P : Program} {w : World} {K : PySem.W.Frag} {mg : Str → Option Value} {base : Heap}
def RowOk19 (ks : List Kd) : Prop := 1 ≤ ks.length ∧ ks.length ≤ 19 ∧ ∀ k ∈ ks, k.Ok
theorem RowOk19.ok {ks : List Kd} (h : RowOk19 ks) : RowOk ks := ⟨h.1, Nat.le_succ_of_le h.2.1, h.2.2⟩
theorem RowOk19.cons {k : Kd} {ks : List Kd} (hk : k.Ok) (h : RowOk19 ks) : RowOk (k :: ks) := ⟨by simp, by have := h.2.1; simp; omega, row_all hk h.ok⟩
def spLaw4 : Sp := fun vs H Q _ => ∃ (S : Addr) (v u o : V) (k : Kd) (ks js : List Kd), vs = [.ref S, v, u, o] ∧ SrcAt H S ∧ ShAt H v k ∧ k.Ok ∧ RwsAt H u ks ∧ RowOk19 ks ∧ RwsAt H o js ∧ RowOk19 js ∧ ∀ H', SamX S H H' → SrcAt H' S → Q (.bl true) H'
abbrev N_Lapart_right : List Str := ["_law_source", "_law_shape_here", "_law_rows_here", "_law_other", "_law_mine", "_law_plan", "_law_more", "_law_many", "_law_low", "_law_high", "_law_n", "_law_some_here", "_law_at", "_law_later", "_law_between"]
theorem sc_Lapart_right : FnScope N_Lapart_right ["_law_source", "_law_shape_here", "_law_rows_here", "_law_other"] (defScope s_Lapart_right) := ⟨rfl, rfl, rfl, by decide +kernel, rfl, by decide +kernel, by decide +kernel⟩
theorem c_Lapart_right (T : Tx K mg) : C8.Cal P w K mg base 7 "_law_apart_right" spLaw4 [] := by
  have k_Kind : C8.Mak P w K mg base 3 "Kind" (CK K) (spKiInit K) [] := k_Kind T
  have c_Lmade : C8.Cal P w K mg base 5 "_law_made" (spMade K) [] := c_Lmade T
  have c_apart_total : C8.Cal P w K mg base 6 "apart_total" (spApTot K) [] := c_apart_total T
  have c_apart_at : C8.Cal P w K mg base 6 "apart_at" (spApAt K) [] := c_apart_at T
  have c_do_same : C8.Cal P w K mg base 4 "do_same" (spDo K) [] := c_do_same T
  have c_Lrange : C8.Cal P w K mg base 1 "_law_range" spRange [] := c_Lrange T
  have c_Lcast : C8.Cal P w K mg base 2 "_law_cast" spLcast [] := c_Lcast T
  have c_Lsome : C8.Cal P w K mg base 3 "_law_some" spSome [] := c_Lsome T
  have c_Lwide : C8.Cal P w K mg base 2 "_law_wide" spWide [] := c_Lwide T
  refine T.cal 60 51 rfl rfl sc_Lapart_right ?_ (fun _ _ _ _ _ _ us hl => match us, hl with | [_, _, _, _], _ => rfl) ?_
  · rintro vs H Q E ⟨S, v, u, o, k, ks, js, rfl, _⟩; rfl
  · rintro cdv A outer s H vs Q E hr ⟨S, v, u, o, k, ks, js, rfl, hS, hv, hk, hu, hro, ho, hrj, h⟩
    refine ⟨_, (pss_cons (ps_par3 (i := 4) (j := 5) (l := 6) rfl sc_Lapart_right.nd rfl rfl rfl (by decide) (by decide) (by decide) rfl rfl rfl (pa_cons (C8.pe_mk k_Kind hr (by decide) rfl (pa_cons (pe_ix ix_tup (pv 1) pe_int (fun _ _ => rfl)) (pa_cons (pe_ix ix_tup (pv 1) pe_int (fun _ _ => rfl)) pa_nil))) (pa_cons (C8.pe_c c_Lmade hr (by decide) rfl (pa_cons (pv 2) pa_nil)) (pa_cons (C8.pe_c c_Lmade hr (by decide) rfl (pa_cons (pv 3) pa_nil)) pa_nil))) (by rfl))
      (pss_cons (ps_asg (pe_tup (pa_cons (C8.pe_c c_apart_total hr (by decide) rfl (pa_cons (pv 4) (pa_cons (pv 5) (pa_cons (pv 6) pa_nil)))) (pa_cons (C8.pe_c c_Lrange hr (by decide) rfl (pa_cons (pv 1) pa_nil)) pa_nil))) (pg_tup rfl (pgs_cons (pg_name (i := 7) sc_Lapart_right.nd rfl (Or.inl rfl)) (pgs_cons (pg_tup rfl (pgs_cons (pg_name (i := 8) sc_Lapart_right.nd rfl (Or.inl rfl)) (pgs_cons (pg_name (i := 9) sc_Lapart_right.nd rfl (Or.inl rfl)) pgs_nil))) pgs_nil))))
      (pss_cons (ps_setLc (i := 11) (own := [("_law_n", 10)]) (g := gName 10) (tt := (_)) (te := (_)) rfl sc_Lapart_right.nd rfl rfl (sw_true rfl rfl rfl (by decide +kernel)) (pi_list (C8.pe_c c_Lsome hr (by decide) rfl (pa_cons (pv 0) (pa_cons (pv 1) pa_nil)))) (blkOk_by (own := [("_law_n", 10)]) (N := N_Lapart_right) (sc := (defScope s_Lapart_right)) (by decide +kernel)) (fun _ _ _ _ _ => (pg_name (i := 10) sc_Lapart_right.nd rfl (Or.inl rfl))) (fun _ _ _ _ _ => (pts_one (pt_cmpR op_nei (C8.pe_c c_Lcast hr (by decide) rfl (pa_cons (pv 2) (pa_cons (pv 10) pa_nil))) (C8.pe_c c_Lcast hr (by decide) rfl (pa_cons (pv 3) (pa_cons (pv 10) pa_nil))) (nomark _)))) (fun _ _ _ _ _ => (pv 10)))
      (pss_cons (ps_if (pt_cmpR op_eqi (pv 7) pe_int (nomark _)) (pss_one (ps_ret (pe_and (pe_cmpR (op_eqD hr.units) (pv 11) (pe_lst pa_nil) (nomark _)) (pe_one (C8.pe_c c_do_same hr (by decide) rfl (pa_cons (pe_op op_cat (pe_lst (pa_cons (pv 4) pa_nil)) (pv 5)) (pa_cons (pe_op op_cat (pe_lst (pa_cons (pv 4) pa_nil)) (pv 6)) pa_nil))))))) pss_nil)
      (pss_cons (ps_if (PW.pt (pw_or (pt_cmpR op_nei (C8.pe_c c_apart_total hr (by decide) rfl (pa_cons (pv 4) (pa_cons (pv 6) (pa_cons (pv 5) pa_nil)))) (pv 7) (nomark _)) (pw_or1 (pt_cmpR op_gt (C8.pe_c c_apart_at hr (by decide) rfl (pa_cons (pv 4) (pa_cons (pv 5) (pa_cons (pv 6) (pa_cons pe_int pa_nil))))) (pe_callB (cr_min rfl) (by rfl) T.n_min boot_min_ (pa_cons (pe_op op_cat (pv 11) (pe_lst (pa_cons (pv 9) pa_nil))) pa_nil)) (nomark _))))) (pss_one (ps_ret pe_bl)) pss_nil)
      (pss_cons (ps_for PassesOwn.never rfl (pi_tup (pe_tup (pa_cons pe_int (pa_cons (C8.pe_c c_Lwide hr (by decide) rfl (pa_cons (pv 0) (pa_cons (pv 7) pa_nil))) (pa_cons (pe_op op_sub (pv 7) pe_int) pa_nil))))) (pg_name (i := 12) sc_Lapart_right.nd rfl (Or.inl rfl))
        (pss_cons (ps_set (i := 10) sc_Lapart_right.nd rfl (Or.inl rfl) (C8.pe_c c_apart_at hr (by decide) rfl (pa_cons (pv 4) (pa_cons (pv 5) (pa_cons (pv 6) (pa_cons (pv 12) pa_nil))))))
          (pss_cons (ps_set (i := 13) sc_Lapart_right.nd rfl (Or.inl rfl) (pe_ifExp (pt_cmpR op_lt (pe_op op_add (pv 12) pe_int) (pv 7) (nomark _)) (C8.pe_c c_apart_at hr (by decide) rfl (pa_cons (pv 4) (pa_cons (pv 5) (pa_cons (pv 6) (pa_cons (pe_op op_add (pv 12) pe_int) pa_nil))))) (pe_op op_add (pv 9) pe_int)))
          (pss_cons (ps_if (PW.pt (pw_or (pt_not (pt_chain op_le op_lt (pv 8) (pv 10) (pv 13))) (pw_or1 (pt_cmpR op_eqi (C8.pe_c c_Lcast hr (by decide) rfl (pa_cons (pv 2) (pa_cons (pv 10) pa_nil))) (C8.pe_c c_Lcast hr (by decide) rfl (pa_cons (pv 3) (pa_cons (pv 10) pa_nil))) (nomark _))))) (pss_one (ps_ret pe_bl)) pss_nil)
          (pss_one (ps_for PassesOwn.never rfl (pi_tup (pe_tup (pa_cons (pe_op op_add (pv 10) pe_int) (pa_cons (pe_op op_fdiv (pe_op op_add (pv 10) (pv 13)) pe_int) (pa_cons (pe_op op_sub (pv 13) pe_int) pa_nil))))) (pg_name (i := 14) sc_Lapart_right.nd rfl (Or.inl rfl))
            (pss_one (ps_if (PW.pt (pw_and (pt_chain op_lt op_lt (pv 10) (pv 14) (pv 13)) (pw_and1 (pt_cmpR op_nei (C8.pe_c c_Lcast hr (by decide) rfl (pa_cons (pv 2) (pa_cons (pv 14) pa_nil))) (C8.pe_c c_Lcast hr (by decide) rfl (pa_cons (pv 3) (pa_cons (pv 14) pa_nil))) (nomark _))))) (pss_one (ps_ret pe_bl)) pss_nil))))))))
      (pss_one (ps_ret pe_bl)))))))), ?_⟩
    obtain ⟨p, rfl, hp⟩ := hv
    have hoks := hro.2.2
    have hojs := hrj.2.2
    have cnt := cA2_cnt hk hro.ok hrj.ok
    refine ⟨_, rfl, p, _, _, _, rfl, rfl, SqT.of hp, rfl, _, rfl, p, _, _, _, rfl, rfl, SqT.of hp, rfl, ?_⟩
    intro x dx hx hd hne
    refine make_kind (k := k) hx hd hne hk fun H1 s1 hx1 => ?_
    refine ⟨_, rfl, u, ks, rfl, rws_mono s1 hu, hoks, by have := hro.2.1; omega, fun pl H2 s2 hpl => ?_⟩
    have s12 := s1.trans s2
    refine ⟨_, rfl, o, js, rfl, rws_mono s12 ho, hojs, by have := hrj.2.1; omega, fun mo H3 s3 hmo => ⟨_, _, _, rfl, ?_⟩⟩
    have s13 := s12.trans s3
    have hx3 := ki_mono (s2.trans s3) hx1
    have hpl3 := ks_mono s3 hpl
    refine ⟨_, rfl, _, rfl, _, rfl, _, pl, mo, k, ks, js, rfl, hx3, hk, hpl3, hro.ok, hmo, hrj.ok, fun H4 s4 => ?_⟩
    have s14 := s13.trans s4
    refine ⟨_, rfl, _, k, rfl, ⟨p, rfl, s14 _ _ hp⟩, hk, fun rg H5 s5 hrg => ?_⟩
    obtain ⟨q, rfl, hq⟩ := hrg
    refine ⟨by show 2 ≤ sizeLine; decide, fun t ht => ⟨t, _, rfl, SqT.of upd_same, rfl, _, _, rfl, _, _, rfl, ⟨q, _, rfl, SqT.of (same_new ht _ _ hq), rfl, _, _, rfl, _, _, rfl, rfl, ?_⟩⟩⟩
    refine ⟨rfl, ?_⟩
    have st := s5.trans (same_new (o := .tup [.int (cA2 k ks js (Rw.lo k + P2 k.w)), .ref q]) ht)
    have s16 := s14.trans st
    have hx6 := ki_mono (s4.trans st) hx3
    have hpl6 := ks_mono (s4.trans st) hpl3
    have hmo6 := ks_mono (s4.trans st) hmo
    generalize upd H5 t (.tup [.int (cA2 k ks js (Rw.lo k + P2 k.w)), .ref q]) = H6 at *
    have hS6 := src_same s16 hS
    refine ⟨_, rfl, _, rfl, S, _, k, rfl, hS6, ⟨p, rfl, s16 _ _ hp⟩, hk, fun tn H7 ns hlen hin sx hS7 htn => ?_⟩
    have hx7 := ref_ki.keep _ _ S _ _ hS6 sx hx6
    have hpl7 := ref_ki.ls hS6 sx hpl6
    have hmo7 := ref_ki.ls hS6 sx hmo6
    have hu7 := ref_sh.ls hS6 sx (rws_mono s16 hu)
    have ho7 := ref_sh.ls hS6 sx (rws_mono s16 ho)
    have sx7 := (SamX.of (p := S) s16).trans sx
    obtain ⟨b, bs, rfl, hb, hbs⟩ := htn
    generalize hM : cA2 k ks js (Rw.lo k + P2 k.w) = M at *
    have hM0 : 0 ≤ M := by
      have := cnt.mono (a := Rw.lo k) (b := Rw.lo k + P2 k.w) (by have := P2_pos k.w; omega)
      rw [cnt.low] at this
      omega
    refine ⟨b, rfl, ⟨_, SqL.of hb⟩, fun D hD => lc_fil (K := K) ns (fun n => !decide (castL ks n = castL js n)) V.int (fun n => [some (.ref S), some (.ref p), some u, some o, some (.ref x), some pl, some mo, some (.int M), some (.int (Rw.lo k)), some (.int (Rw.hi k)), some (.int n), none, none, none, none]) (PySem.Paired.length hbs) (by omega) hD (SqL.of hb) (fun i y n H' kk hi hn s' hkk => ?_) (fun _ => rfl) (fun n H' Q' _ s' c => ?_) (fun n H' Q' _ s' c => ⟨_, rfl, c⟩) (fun H8 s8 hd8 => ?_)⟩
    · obtain ⟨n', hn', rfl⟩ := Paired.get hbs hi
      have : n = n' := Option.some.inj (hn.symm.trans hn')
      subst this
      exact hkk
    · refine ⟨_, rfl, _, rfl, u, ks, n, rfl, rws_mono s' hu7, hoks, _, rfl, _, rfl, o, js, n, rfl, rws_mono s' ho7, hojs, _, _, rfl, rfl, _, rfl, c _ (Same.refl _)⟩
    have hx8 := ki_mono s8 hx7
    have hpl8 := ks_mono s8 hpl7
    have hmo8 := ks_mono s8 hmo7
    have hS8 := src_same s8 hS7
    have sx8 := sx7.trans (SamX.of s8)
    have hu8 := rws_mono s8 hu7
    have ho8 := rws_mono s8 ho7
    refine ⟨_, rfl, _, _, rfl, rfl, _, rfl, ?_⟩
    by_cases c0 : M = 0
    · rw [decide_eq_true c0]
      have nodif : ∀ n, Rw.lo k ≤ n → n ≤ Rw.hi k → ¬ Dif k ks js n := fun n n0 n1 => cnt.none (top := Rw.lo k + P2 k.w) (by rw [hM, c0]) n0 (by unfold Rw.hi at n1; omega)
      have hfil : ns.filter (fun n => !decide (castL ks n = castL js n)) = [] := by
        rw [List.filter_eq_nil_iff]
        intro n hn
        obtain ⟨n0, n1⟩ := hin n hn
        have := nodif n n0 n1
        rw [dif_in n0 n1] at this
        simpa using this
      rw [hfil] at hd8
      refine iteT ⟨_, rfl, by show 0 ≤ sizeLine; decide, fun e he => ⟨_, _, dp_nil (same_new he _ _ hd8), dp_nil upd_same, shaped_pDs [], shaped_pDs [], true, rfl, iteT ?_⟩⟩
      have s9 : Same H8 (upd H8 e (.lst [])) := same_new he
      refine ⟨_, rfl, by show 1 ≤ sizeLine; decide, fun l1 hl1 => ?_⟩
      have s10 := s9.trans (same_new (o := .lst [.ref x]) hl1)
      obtain ⟨pa, pus, rfl, hpa, hpus⟩ := hpl8
      have hlp := PySem.Paired.length hpus
      have l19 := hro.2.1
      refine ⟨_, rfl, l1, pa, _, _, rfl, rfl, upd_same, s10 _ _ hpa, small' (by simp; omega), fun l2 hl2 => ?_⟩
      have s11 := s10.trans (same_new (o := .lst ([.ref x] ++ pus)) hl2)
      refine ⟨_, rfl, by show 1 ≤ sizeLine; decide, fun l3 hl3 => ?_⟩
      have s12 := s11.trans (same_new (o := .lst [.ref x]) hl3)
      obtain ⟨ma, mus, rfl, hma, hmus⟩ := hmo8
      have hlm := PySem.Paired.length hmus
      have m19 := hrj.2.1
      refine ⟨_, rfl, l3, ma, _, _, rfl, rfl, upd_same, s12 _ _ hma, small' (by simp; omega), fun l4 hl4 => ?_⟩
      have s13 := s12.trans (same_new (o := .lst ([.ref x] ++ mus)) hl4)
      refine ⟨_, _, k :: ks, k :: js, rfl, ⟨l2, _, rfl, same_new hl4 _ _ (same_new hl3 _ _ upd_same), .cons (ki_mono s13 hx8) (sta_ki.same s13 hpus)⟩, hro.cons hk, ⟨l4, _, rfl, upd_same, .cons (ki_mono s13 hx8) (sta_ki.same s13 hmus)⟩, hrj.cons hk, fun H9 s14 => ?_⟩
      have hpar : (effOf (k :: ks)).parts = (effOf (k :: js)).parts := by
        refine parts_of_fn hk (eff_kd hk hro.ok) (eff_kd hk hrj.ok) (effOf_b k ks) (effOf_b k js) fun n n0 n1 => ?_
        have := nodif n n0 n1
        unfold Dif at this
        rw [fn_cast hk hoks, fn_cast hk hojs]
        exact Decidable.not_not.mp this
      rw [decide_eq_true hpar]
      exact h _ (sx8.trans ((SamX.of s13).trans (SamX.of s14))) (src_same (s13.trans s14) hS8)
    · rw [decide_eq_false c0]
      have hMp : 0 < M := by omega
      have etop : cA2 k js ks (Rw.lo k + P2 k.w) = M := by
        rw [← hM]
        exact (cA2_cnt hk hrj.ok hro.ok).same (Cnt.swap cnt) (by have := P2_pos k.w; omega)
      refine iteF ⟨_, rfl, _, rfl, _, rfl, _, mo, pl, k, js, ks, rfl, hx8, hk, hmo8, hrj.ok, hpl8, hro.ok, fun H9 s9 => ⟨_, rfl, _, _, rfl, rfl, _, rfl, ?_⟩⟩
      rw [etop, decide_eq_true rfl]
      have hx9 := ki_mono s9 hx8
      have hpl9 := ks_mono s9 hpl8
      have hmo9 := ks_mono s9 hmo8
      refine iteF ⟨_, rfl, _, rfl, _, rfl, _, pl, mo, k, ks, js, 0, rfl, hx9, hk, hpl9, hro.ok, hmo9, hrj.ok, Int.le_refl _, by omega, fun y H10 s10 y0 y1 hy => ?_⟩
      refine ⟨_, rfl, _, rfl, by show 1 ≤ sizeLine; decide, fun l hl => ?_⟩
      have hD10 := s10 _ _ (s9 _ _ hd8)
      have hfl : (ns.filter (fun n => !decide (castL ks n = castL js n))).length ≤ 9 := by
        have := List.length_filter_le (fun n => !decide (castL ks n = castL js n)) ns
        omega
      refine ⟨D, l, _, _, rfl, rfl, same_new hl _ _ hD10, upd_same, small' (by simp only [List.length_map, List.length_cons, List.length_nil]; omega), fun q hq => ?_⟩
      refine ⟨q, ns.filter (fun n => !decide (castL ks n = castL js n)) ++ [Rw.hi k], rfl, SqL.of (by rw [upd_same, List.map_append]; rfl), by simp, fun m hm _ => ⟨_, _, rfl, rfl, _, rfl, ?_⟩⟩
      have hym : ¬ y > m := by
        rcases List.mem_append.mp hm with z | z
        · obtain ⟨z1, z2⟩ := List.mem_filter.mp z
          obtain ⟨m0, m1⟩ := hin m z1
          have : Dif k ks js m := (dif_in m0 m1).mpr (by simpa using z2)
          have := cnt.first_le hy m0 this
          omega
        · simp only [List.mem_singleton] at z
          omega
      rw [decide_eq_false hym]
      refine iteF ?_
      have s812 : Same H8 (upd (upd H10 l (.lst [.int (Rw.hi k)])) q (.lst ((ns.filter (fun n => !decide (castL ks n = castL js n))).map V.int ++ [.int (Rw.hi k)]))) := same_newer ((s9.trans s10).trans (same_new hl)) hq
      generalize upd (upd H10 l (.lst [.int (Rw.hi k)])) q (.lst ((ns.filter (fun n => !decide (castL ks n = castL js n))).map V.int ++ [.int (Rw.hi k)])) = H12 at *
      have hS12 := src_same s812 hS8
      refine ⟨_, rfl, _, rfl, S, M, rfl, hS12, hMp, fun r H13 r0 r1 sx13 hS13 => ⟨_, rfl, _, _, rfl, rfl, by show 3 ≤ sizeLine; decide, fun t ht => ?_⟩⟩
      have st : Same H13 (upd H13 t (.tup [.int 0, .int r, .int (M - 1)])) := same_new ht
      have hx13 := ki_mono st (ref_ki.keep _ _ S _ _ hS12 sx13 (ki_mono s812 hx8))
      have hpl13 := ks_mono st (ref_ki.ls hS12 sx13 (ks_mono s812 hpl8))
      have hmo13 := ks_mono st (ref_ki.ls hS12 sx13 (ks_mono s812 hmo8))
      have hu13 := rws_mono st (ref_sh.ls hS12 sx13 (rws_mono s812 hu8))
      have ho13 := rws_mono st (ref_sh.ls hS12 sx13 (rws_mono s812 ho8))
      have hSt := src_same st hS13
      have sxt := ((sx8.trans (SamX.of s812)).trans sx13).trans (SamX.of st)
      obtain ⟨pa, pus, rfl, hpa, hpus⟩ := hpl13
      obtain ⟨ma, mus, rfl, hma, hmus⟩ := hmo13
      have hpl13 : KsAt K (upd H13 t (.tup [.int 0, .int r, .int (M - 1)])) (.ref pa) ks := ⟨pa, pus, rfl, hpa, hpus⟩
      have hmo13 : KsAt K (upd H13 t (.tup [.int 0, .int r, .int (M - 1)])) (.ref ma) js := ⟨ma, mus, rfl, hma, hmus⟩
      refine ⟨t, rfl, ⟨_, SqT.of upd_same⟩, for_tup (K := K) (a := t) (xs := [V.int 0, V.int r, V.int (M - 1)]) (fun i σ H' => Same (upd H13 t (.tup [.int 0, .int r, .int (M - 1)])) H' ∧ ∃ o10 o12 o13 o14, σ = [some (.ref S), some (.ref p), some u, some o, some (.ref x), some (.ref pa), some (.ref ma), some (.int M), some (.int (Rw.lo k)), some (.int (Rw.hi k)), o10, some (.ref D), o12, o13, o14]) ⟨Same.refl _, none, none, none, none, rfl⟩ (fun i σ H' _ z => SqT.of (z.1 _ _ upd_same)) ?_ ?_⟩
      · rintro i y σ H11 hi ⟨s11, o10, o12, o13, o14, rfl⟩
        have hy : ∃ at_ : Int, y = .int at_ ∧ 0 ≤ at_ ∧ at_ < M := by
          match i, hi with
          | 0, hi => cases hi; exact ⟨_, rfl, by omega, by omega⟩
          | 1, hi => cases hi; exact ⟨_, rfl, r0, r1⟩
          | 2, hi => cases hi; exact ⟨_, rfl, by omega, by omega⟩
        obtain ⟨at_, rfl, at0, at1⟩ := hy
        have hu11 := rws_mono s11 hu13
        have ho11 := rws_mono s11 ho13
        refine ⟨_, rfl, _, rfl, _, rfl, _, rfl, _, _, _, k, ks, js, at_, rfl, ki_mono s11 hx13, hk, ks_mono s11 hpl13, hro.ok, ks_mono s11 hmo13, hrj.ok, at0, by omega, fun n HA sA n0 n1 hn => ?_⟩
        have hdif := cnt.at_true hn
        refine ⟨_, rfl, _, _, rfl, rfl, _, rfl, _, _, rfl, rfl, _, rfl, ?_⟩
        by_cases c1 : at_ + 1 < M
        · rw [decide_eq_true c1]
          have s1A := s11.trans sA
          refine iteT ⟨_, rfl, _, rfl, _, rfl, _, rfl, _, _, rfl, rfl, _, _, _, k, ks, js, at_ + 1, rfl, ki_mono s1A hx13, hk, ks_mono s1A hpl13, hro.ok, ks_mono s1A hmo13, hrj.ok, by omega, by omega, fun L HB sB L0 L1 hL => ?_⟩
          have sH := sA.trans sB
          have hcL : cA2 k ks js L ≤ at_ + 1 := by rw [hL.here]; exact Int.le_refl _
          have hnL : n < L := cnt.le_of (by rw [hn.here, hL.here]; omega)
          have hLh : L ≤ Rw.hi k + 1 := by omega
          refine ⟨_, rfl, _, rfl, _, _, rfl, rfl, _, rfl, ?_⟩
          rw [decide_eq_true n0]
          refine iteT ⟨_, rfl, _, _, rfl, rfl, _, rfl, ?_⟩
          rw [decide_eq_true hnL]
          refine iteF ⟨_, rfl, _, rfl, u, ks, n, rfl, rws_mono sH hu11, hoks, _, rfl, _, rfl, o, js, n, rfl, rws_mono sH ho11, hojs, _, _, rfl, rfl, _, rfl, ?_⟩
          rw [decide_eq_false ((dif_in n0 n1).mp hdif)]
          refine iteF ?_
          refine ⟨_, rfl, _, _, rfl, rfl, _, rfl, _, rfl, _, _, rfl, rfl, _, _, rfl, rfl, ⟨by decide, by decide⟩, _, rfl, _, _, rfl, rfl, by show 3 ≤ sizeLine; decide, fun t2 ht2 => ?_⟩
          refine ⟨t2, rfl, ⟨_, SqT.of upd_same⟩, for_tup (K := K) (a := t2) (xs := [V.int (n + 1), V.int ((n + L) / 2), V.int (L - 1)]) (fun i σ H' => Same HB H' ∧ H' t2 = some (.tup [V.int (n + 1), V.int ((n + L) / 2), V.int (L - 1)]) ∧ ∃ o14, σ = [some (.ref S), some (.ref p), some u, some o, some (.ref x), some (.ref pa), some (.ref ma), some (.int M), some (.int (Rw.lo k)), some (.int (Rw.hi k)), some (.int n), some (.ref D), some (.int at_), some (.int L), o14]) ⟨same_new ht2, upd_same, o14, rfl⟩ (fun i σ H' _ z => SqT.of z.2.1) ?_ ?_⟩
          · rintro j y σ H14 hj ⟨s14, ht14, o14', rfl⟩
            have hy : ∃ m, y = .int m := by
              match j, hj with
              | 0, hj => cases hj; exact ⟨_, rfl⟩
              | 1, hj => cases hj; exact ⟨_, rfl⟩
              | 2, hj => cases hj; exact ⟨_, rfl⟩
            obtain ⟨m, rfl⟩ := hy
            refine ⟨_, rfl, _, rfl, _, _, rfl, rfl, _, rfl, ?_⟩
            by_cases d1 : n < m
            · rw [decide_eq_true d1]
              refine iteT ⟨_, rfl, _, _, rfl, rfl, _, rfl, ?_⟩
              by_cases d2 : m < L
              · rw [decide_eq_true d2]
                have hm := cnt.between hn hcL d1 d2
                rw [dif_in (by omega) (by omega)] at hm
                refine iteT ⟨_, rfl, _, rfl, u, ks, m, rfl, rws_mono (sH.trans s14) hu11, hoks, _, rfl, _, rfl, o, js, m, rfl, rws_mono (sH.trans s14) ho11, hojs, _, _, rfl, rfl, _, rfl, ?_⟩
                rw [decide_eq_true (Decidable.not_not.mp hm)]
                exact iteF ⟨s14, ht14, _, rfl⟩
              · rw [decide_eq_false d2]
                exact iteF (iteF ⟨s14, ht14, _, rfl⟩)
            · rw [decide_eq_false d1]
              exact iteF ⟨false, rfl, iteF (iteF ⟨s14, ht14, _, rfl⟩)⟩
          · rintro σ H14 ⟨s14, ht14, o14', rfl⟩
            exact ⟨(s11.trans sH).trans s14, _, _, _, _, rfl⟩
        · rw [decide_eq_false c1]
          refine iteF ⟨_, rfl, _, _, rfl, rfl, ?_⟩
          have sH := sA
          have hcL : cA2 k ks js (Rw.hi k + 1) ≤ at_ + 1 := by rw [hi_top, hM]; omega
          have hnL : n < Rw.hi k + 1 := by omega
          have hLh : Rw.hi k + 1 ≤ Rw.hi k + 1 := Int.le_refl _
          refine ⟨_, rfl, _, rfl, _, _, rfl, rfl, _, rfl, ?_⟩
          rw [decide_eq_true n0]
          refine iteT ⟨_, rfl, _, _, rfl, rfl, _, rfl, ?_⟩
          rw [decide_eq_true hnL]
          refine iteF ⟨_, rfl, _, rfl, u, ks, n, rfl, rws_mono sH hu11, hoks, _, rfl, _, rfl, o, js, n, rfl, rws_mono sH ho11, hojs, _, _, rfl, rfl, _, rfl, ?_⟩
          rw [decide_eq_false ((dif_in n0 n1).mp hdif)]
          refine iteF ?_
          refine ⟨_, rfl, _, _, rfl, rfl, _, rfl, _, rfl, _, _, rfl, rfl, _, _, rfl, rfl, ⟨by decide, by decide⟩, _, rfl, _, _, rfl, rfl, by show 3 ≤ sizeLine; decide, fun t2 ht2 => ?_⟩
          refine ⟨t2, rfl, ⟨_, SqT.of upd_same⟩, for_tup (K := K) (a := t2) (xs := [V.int (n + 1), V.int ((n + (Rw.hi k + 1)) / 2), V.int ((Rw.hi k + 1) - 1)]) (fun i σ H' => Same HA H' ∧ H' t2 = some (.tup [V.int (n + 1), V.int ((n + (Rw.hi k + 1)) / 2), V.int ((Rw.hi k + 1) - 1)]) ∧ ∃ o14, σ = [some (.ref S), some (.ref p), some u, some o, some (.ref x), some (.ref pa), some (.ref ma), some (.int M), some (.int (Rw.lo k)), some (.int (Rw.hi k)), some (.int n), some (.ref D), some (.int at_), some (.int (Rw.hi k + 1)), o14]) ⟨same_new ht2, upd_same, o14, rfl⟩ (fun i σ H' _ z => SqT.of z.2.1) ?_ ?_⟩
          · rintro j y σ H14 hj ⟨s14, ht14, o14', rfl⟩
            have hy : ∃ m, y = .int m := by
              match j, hj with
              | 0, hj => cases hj; exact ⟨_, rfl⟩
              | 1, hj => cases hj; exact ⟨_, rfl⟩
              | 2, hj => cases hj; exact ⟨_, rfl⟩
            obtain ⟨m, rfl⟩ := hy
            refine ⟨_, rfl, _, rfl, _, _, rfl, rfl, _, rfl, ?_⟩
            by_cases d1 : n < m
            · rw [decide_eq_true d1]
              refine iteT ⟨_, rfl, _, _, rfl, rfl, _, rfl, ?_⟩
              by_cases d2 : m < (Rw.hi k + 1)
              · rw [decide_eq_true d2]
                have hm := cnt.between hn hcL d1 d2
                rw [dif_in (by omega) (by omega)] at hm
                refine iteT ⟨_, rfl, _, rfl, u, ks, m, rfl, rws_mono (sH.trans s14) hu11, hoks, _, rfl, _, rfl, o, js, m, rfl, rws_mono (sH.trans s14) ho11, hojs, _, _, rfl, rfl, _, rfl, ?_⟩
                rw [decide_eq_true (Decidable.not_not.mp hm)]
                exact iteF ⟨s14, ht14, _, rfl⟩
              · rw [decide_eq_false d2]
                exact iteF (iteF ⟨s14, ht14, _, rfl⟩)
            · rw [decide_eq_false d1]
              exact iteF ⟨false, rfl, iteF (iteF ⟨s14, ht14, _, rfl⟩)⟩
          · rintro σ H14 ⟨s14, ht14, o14', rfl⟩
            exact ⟨(s11.trans sH).trans s14, _, _, _, _, rfl⟩
      · rintro σ H11 ⟨s11, o10, o12, o13, o14, rfl⟩
        exact h _ (sxt.trans (SamX.of s11)) (src_same s11 hSt)
end
end Fw



/-! _law_has_single. -/
namespace Fw
open PySem PySem.Spec PyProof.Rows L2 Rw
def mkOf (s : Nat) : List Int := [P2 s, P2 s - 1, 0 - P2 s, 0 - P2 s - 1]
def marksOf (l h : Int) (i : Nat) : List Int := [l, h, 0] ++ (List.range i).flatMap mkOf
theorem marks_succ (l h : Int) (i : Nat) : marksOf l h (i + 1) = marksOf l h i ++ mkOf i := by
  unfold marksOf
  rw [List.range_succ, List.flatMap_append, ← List.append_assoc]
  simp
theorem marks_len (l h : Int) (i : Nat) : (marksOf l h i).length = 3 + 4 * i := by
  induction i with
  | zero => simp [marksOf]
  | succ i ih => rw [marks_succ, List.length_append, ih]; show _ + 4 = _; omega
theorem marks_low (l h : Int) (i : Nat) : l ∈ marksOf l h i := by simp [marksOf]
theorem marks_P2 (l h : Int) {i s : Nat} (hs : s < i) : P2 s ∈ marksOf l h i := by
  unfold marksOf
  refine List.mem_append.mpr (.inr (List.mem_flatMap.mpr ⟨s, List.mem_range.mpr hs, ?_⟩))
  simp [mkOf]
/-- the marks within -/
def marksIn (l h : Int) : List Int := (marksOf l h 130).filter fun n => decide (l ≤ n) && decide (n ≤ h)
theorem marksIn_len (l h : Int) : (marksIn l h).length ≤ 1000 := by
  have h1 := List.length_filter_le (fun n => decide (l ≤ n) && decide (n ≤ h)) (marksOf l h 130)
  rw [marks_len] at h1
  unfold marksIn
  omega
theorem map_ne {l : List Int} {f g : Int → Int} (h : ∃ n ∈ l, f n ≠ g n) : l.map f ≠ l.map g := by
  obtain ⟨n, hn, hne⟩ := h
  intro z
  exact hne (List.map_inj_left.mp z n hn)
def RowA (D : Addr) (f : Bool → List Int) (H : Hp) (v : V) (c : Bool) : Prop := ∃ a, v = .ref a ∧ a ≠ D ∧ H a = some (.lst ((f c).map V.int))
section
variable {P : Program} {w : World} {K : PySem.W.Frag} {mg : Str → Option Value} {base : Heap}
def spHas : Sp := fun vs H Q _ => ∃ (l h : Int) (v u : V) (ks ms : List Kd), vs = [.int l, .int h, v, u] ∧ RwsAt H v ks ∧ (∀ k ∈ ks, k.Ok) ∧ RwsAt H u ms ∧ (∀ k ∈ ms, k.Ok) ∧ ks.length + ms.length ≤ 50 ∧
  (∀ c : Kd, c.Ok → ∃ n ∈ marksIn l h, castL ks n ≠ put c n) ∧ ∀ H', Same H H' → Q (.bl false) H'
abbrev N_Lhas_single : List Str := ["_law_low", "_law_high", "_law_rows_here", "_law_more", "_law_marks", "_law_step", "_law_due", "_law_bits", "_law_n", "_law_one_here", "_law_flag"]
theorem sc_Lhas_single : FnScope N_Lhas_single ["_law_low", "_law_high", "_law_rows_here", "_law_more"] (defScope s_Lhas_single) := ⟨rfl, rfl, rfl, by decide +kernel, rfl, by decide +kernel, by decide +kernel⟩
theorem c_Lhas_single (T : Tx K mg) : C8.Cal P w K mg base 3 "_law_has_single" spHas [] := by
  have c_Lcast : C8.Cal P w K mg base 2 "_law_cast" spLcast [] := c_Lcast T
  have c_Lput : C8.Cal P w K mg base 1 "_law_put" spPut [] := c_Lput T
  refine T.cal 61 52 rfl rfl sc_Lhas_single ?_ (fun _ _ _ _ _ _ us hl => match us, hl with | [_, _, _, _], _ => rfl) ?_
  · rintro vs H Q E ⟨l, h, v, u, ks, ms, rfl, _⟩; rfl
  · rintro cdv A outer s H vs Q E hr ⟨l, h, v, u, ks, ms, rfl, hv, hks, hu, hms, h50, hM, hQ⟩
    refine ⟨_, (pss_cons (ps_set (i := 4) sc_Lhas_single.nd rfl (Or.inr rfl) (pe_lst (pa_cons (pv 0) (pa_cons (pv 1) (pa_cons pe_int pa_nil)))))
      (pss_cons (ps_for PassesOwn.never rfl (pi_range1 rfl T.n_range (pa_cons pe_int pa_nil)) (pg_name (i := 5) sc_Lhas_single.nd rfl (Or.inl rfl))
        (pss_one (ps_set (i := 4) sc_Lhas_single.nd rfl (Or.inr rfl) (pe_op op_cat (pv 4) (pe_lst (pa_cons (pe_op op_shl1 pe_int (pv 5)) (pa_cons (pe_op op_sub (pe_op op_shl1 pe_int (pv 5)) pe_int) (pa_cons (pe_op op_sub pe_int (pe_op op_shl1 pe_int (pv 5))) (pa_cons (pe_op op_sub (pe_op op_sub pe_int (pe_op op_shl1 pe_int (pv 5))) pe_int) pa_nil)))))))))
      (pss_cons (ps_set (i := 4) sc_Lhas_single.nd rfl (Or.inr rfl) (pe_lc (own := [("_law_n", 8)]) (g := gName 8) (tt := (_)) (te := (_)) rfl sc_Lhas_single.nd (pi_list (pv 4)) (blkOk_by (own := [("_law_n", 8)]) (N := N_Lhas_single) (sc := (defScope s_Lhas_single)) (by decide +kernel)) (fun _ _ _ _ _ => (pg_name (i := 8) sc_Lhas_single.nd rfl (Or.inl rfl))) (fun _ _ _ _ _ => (pts_one (pt_chain op_le op_le (pv 0) (pv 8) (pv 1)))) (fun _ _ _ _ _ => (pv 8))))
      (pss_cons (ps_setLc (i := 6) (own := [("_law_n", 8)]) (g := gName 8) (tt := (tYes)) (te := (_)) rfl sc_Lhas_single.nd rfl rfl (sw_true rfl rfl rfl (by decide +kernel)) (pi_list (pv 4)) (blkOk_by (own := [("_law_n", 8)]) (N := N_Lhas_single) (sc := (defScope s_Lhas_single)) (by decide +kernel)) (fun _ _ _ _ _ => (pg_name (i := 8) sc_Lhas_single.nd rfl (Or.inl rfl))) (fun _ _ _ _ _ => pts_nil) (fun _ _ _ _ _ => (C8.pe_c c_Lcast hr (by decide) rfl (pa_cons (pv 2) (pa_cons (pv 8) pa_nil)))))
      (pss_cons (ps_for PassesOwn.never rfl (pi_list (pe_callB (cr_sortedSet rfl) (by rfl) T.n_sorted boot_sorted_ (pa_cons (pe_callTy (FwR.cr_setL rfl) (by rfl) T.n_set boot_set_ (pa_cons (pe_lc (own := [("_law_one_here", 9)]) (g := gName 9) (tt := (tYes)) (te := (tOp (rIxT K) (tVar 9) (tC (V.int 0)))) rfl sc_Lhas_single.nd (pi_list (pe_op op_cat (pv 2) (pv 3))) (blkOk_by (own := [("_law_one_here", 9)]) (N := N_Lhas_single) (sc := (defScope s_Lhas_single)) (by decide +kernel)) (fun _ _ _ _ _ => (pg_name (i := 9) sc_Lhas_single.nd rfl (Or.inl rfl))) (fun _ _ _ _ _ => pts_nil) (fun _ _ _ _ _ => (pe_ix ix_tup (pv 9) pe_int (fun _ _ => rfl)))) pa_nil)) pa_nil))) (pg_name (i := 7) sc_Lhas_single.nd rfl (Or.inr rfl))
        (pss_one (ps_if (pt_cmpR (op_inD (Room.units65 hr)) (pv 6) (pe_lc (own := [("_law_flag", 10)]) (g := gName 10) (tt := (tYes)) (te := (tLc (iList K (tVar 4)) (gName 8) tYes (tCall spPut [] C8.E0 (tCons (tTup (tCons (tVar 7) (tCons (tVar 10) tNil))) (tCons (tVar 8) tNil))) [8])) rfl sc_Lhas_single.nd (pi_tup (pe_tup (pa_cons pe_bl (pa_cons pe_bl pa_nil)))) (blkOk_by (own := [("_law_flag", 10)]) (N := N_Lhas_single) (sc := (defScope s_Lhas_single)) (by decide +kernel)) (fun _ _ _ _ _ => (pg_name (i := 10) sc_Lhas_single.nd rfl (Or.inr rfl))) (fun _ _ _ _ _ => pts_nil) (fun _ _ _ _ _ => (pe_lc (own := [("_law_n", 8)]) (g := gName 8) (tt := (tYes)) (te := (_)) rfl sc_Lhas_single.nd (pi_list (pv 4)) (blkOk_by (own := [("_law_n", 8)]) (N := N_Lhas_single) (sc := _) (by rfl)) (fun _ _ _ _ _ => (pg_name (i := 8) sc_Lhas_single.nd rfl (Or.inl rfl))) (fun _ _ _ _ _ => pts_nil) (fun _ _ _ _ _ => (C8.pe_c c_Lput hr (by decide) rfl (pa_cons (pe_tup (pa_cons (pv 7) (pa_cons (pv 10) pa_nil))) (pa_cons (pv 8) pa_nil))))))) (by with_unfolding_all rfl)) (pss_one (ps_ret pe_bl)) pss_nil)))
      (pss_one (ps_ret pe_bl))))))), ?_⟩
    refine ⟨_, rfl, _, rfl, by show 3 ≤ sizeLine; decide, fun m0 hm0 => ?_⟩
    have s0 : Same H (upd H m0 (.lst [.int l, .int h, .int 0])) := same_new hm0
    refine ⟨130, rfl, by decide, by decide, for_it (walk_range (lo := 0) (n := 130)) (fun i σ H2 => Same H H2 ∧ ∃ mk o5, H2 mk = some (.lst ((marksOf l h i).map V.int)) ∧ σ = [some (.int l), some (.int h), some v, some u, some (.ref mk), o5, none, none, none, none, none]) ⟨s0, m0, none, upd_same, rfl⟩ (fun _ _ _ _ _ => trivial) ?_ ?_⟩
    · rintro i x σ H3 H2 hi ⟨s2, mk, o5, hmk, rfl⟩ ⟨rfl, rfl⟩
      have e5 : V.int (0 + (i : Int)) = V.int ((i : Nat) : Int) := congrArg V.int (by omega)
      refine ⟨_, rfl, _, rfl, i, rfl, e5, by omega, _, rfl, i, rfl, e5, by omega, _, _, rfl, rfl, _, rfl, i, rfl, e5, by omega, _, _, rfl, rfl, _, rfl, i, rfl, e5, by omega, _, _, rfl, rfl, _, _, rfl, rfl, ?_⟩
      refine ⟨by show 4 ≤ sizeLine; decide, fun b hb => ?_⟩
      have s3 := same_newer (o := .lst [.int (P2 i), .int (P2 i - 1), .int (0 - P2 i), .int (0 - P2 i - 1)]) s2 hb
      refine ⟨mk, b, _, _, rfl, rfl, same_new hb _ _ hmk, upd_same, small' (by rw [List.length_map, marks_len]; show _ + 4 ≤ _; omega), fun r hr' => ?_⟩
      refine ⟨same_newer s3 hr', r, _, ?_, rfl⟩
      rw [upd_same, marks_succ, List.map_append]
      rfl
    · rintro σ H2 ⟨s2, mk, o5, hmk, rfl⟩
      refine ⟨_, rfl, mk, rfl, ⟨_, SqL.of hmk⟩, fun D hD => lc_fil (K := K) (marksOf l h 130) (fun n => decide (l ≤ n) && decide (n ≤ h)) V.int (fun n => [some (.int l), some (.int h), some v, some u, some (.ref mk), o5, none, none, some (.int n), none, none]) (by rw [List.length_map]) (by rw [marks_len]; decide) hD (SqL.of hmk) (fun i y n H' kk hi hn s' hkk => ?_) (fun _ => rfl) (fun n H' Q' _ s' c => ?_) (fun n H' Q' _ s' c => ⟨_, rfl, c⟩) (fun H3 s3 hd3 => ?_)⟩
      · rw [List.getElem?_map, hn] at hi
        cases hi
        exact hkk
      · have c' := c H' (Same.refl _)
        refine ⟨_, rfl, _, rfl, _, _, rfl, rfl, _, rfl, ?_⟩
        by_cases c1 : l ≤ n
        · rw [decide_eq_true c1, Bool.true_and] at c'
          rw [decide_eq_true c1]
          exact iteT ⟨_, rfl, _, _, rfl, rfl, _, rfl, c'⟩
        · rw [decide_eq_false c1, Bool.false_and] at c'
          rw [decide_eq_false c1]
          exact iteF ⟨false, rfl, c'⟩
      have hd3 : H3 D = some (.lst ((marksIn l h).map V.int)) := hd3
      have hml := marksIn_len l h
      have s23 := s2.trans s3
      refine ⟨_, rfl, D, rfl, ⟨_, SqL.of hd3⟩, fun E1 hE1 => lc_new (K := K) sta_i ((marksIn l h).map (castL ks)) (by simp) (by simp; omega) hE1 (SqL.of hd3) (fun i x H' hi s' Q' c => ?_) (fun bs H4 s4 he hb => ?_)⟩
      · rw [List.getElem?_map] at hi
        cases hn : (marksIn l h)[i]? with
        | none => rw [hn] at hi; cases hi
        | some n =>
          rw [hn] at hi
          cases hi
          exact ⟨rfl, _, rfl, _, rfl, v, ks, n, rfl, rws_mono (s23.trans s') hv, hks, c _ _ H' (by rw [List.getElem?_map, hn]; rfl) (Same.refl _) rfl⟩
      rw [ints_of hb] at he
      have s24 := s23.trans s4
      obtain ⟨va, vus, rfl, hva, hvus⟩ := rws_mono s24 hv
      obtain ⟨ua, uus, rfl, hua, huus⟩ := rws_mono s24 hu
      have hlv := PySem.Paired.length hvus
      have hlu := PySem.Paired.length huus
      refine ⟨_, rfl, _, rfl, va, ua, _, _, rfl, rfl, hva, hua, small' (by omega), fun cc hcc => ?_⟩
      have s5 : Same H4 (upd H4 cc (.lst (vus ++ uus))) := same_new hcc
      have hall : Paired (ShAt (upd H4 cc (.lst (vus ++ uus)))) (vus ++ uus) (ks ++ ms) := sta_sh.same s5 (Paired.app hvus huus)
      refine ⟨cc, rfl, ⟨_, SqL.of upd_same⟩, fun F hF => lc_new (K := K) sta_i ((ks ++ ms).map fun k => (k.w : Int)) (by rw [List.length_map]; exact PySem.Paired.length hall) (by simp; omega) hF (SqL.of upd_same) (fun i x H' hi s' Q' c => ?_) (fun fs H6 s6 hf hfb => ?_)⟩
      · obtain ⟨k, hk, q, rfl, hq⟩ := Paired.get hall hi
        exact ⟨rfl, _, rfl, q, _, _, _, rfl, rfl, SqT.of (s' _ _ hq), rfl, c _ _ H' (by rw [List.getElem?_map, hk]; rfl) (Same.refl _) rfl⟩
      rw [ints_of hfb] at hf
      have s46 := s5.trans s6
      refine ⟨F, _, rfl, SqL.of hf, by simp; omega, fun g c hc hg => ?_⟩
      refine ⟨g, _, c, rfl, upd_same, by simp at hc; omega, fun zs q _ hmem _ hq => ?_⟩
      have s8 := same_newer (o := .lst (zs.map V.int)) (same_newer s46 hg) hq
      have hzs : ∀ z ∈ zs, ∃ b : Nat, z = (b : Int) ∧ 1 ≤ b ∧ b ≤ 128 := fun z hz => by
        have := of_decide_eq_true ((hmem z).mp hz)
        obtain ⟨k, hk, rfl⟩ := List.mem_map.mp this
        have ok : k.Ok := (List.mem_append.mp hk).elim (hks k) (hms k)
        exact ⟨k.w, rfl, ok.1, ok.2⟩
      have hd8 := s8 _ _ (s4 _ _ hd3)
      have he8 := s8 _ _ he
      have s28 := s24.trans s8
      generalize hG8 : upd (upd H6 g _) q (.lst (zs.map V.int)) = H8 at *
      have hq8 : H8 q = some (.lst (zs.map V.int)) := by rw [← hG8]; exact upd_same
      refine ⟨q, rfl, ⟨_, SqL.of hq8⟩, for_list (K := K) (a := q) (xs := zs.map V.int) (fun i σ H9 => Same H8 H9 ∧ ∃ o7, σ = [some (.int l), some (.int h), some (.ref va), some (.ref ua), some (.ref D), o5, some (.ref E1), o7, none, none, none]) ⟨Same.refl _, none, rfl⟩ (fun i σ H9 _ z => SqL.of (z.1 _ _ hq8)) ?_ ?_⟩
      · rintro i x σ H9 hi ⟨s9, o7, rfl⟩
        have hb : ∃ b : Nat, x = .int (b : Int) ∧ 1 ≤ b ∧ b ≤ 128 := by
          obtain ⟨z, hz, rfl⟩ := List.mem_map.mp (List.mem_of_getElem? hi)
          obtain ⟨b, rfl, b1, b2⟩ := hzs z hz
          exact ⟨b, rfl, b1, b2⟩
        obtain ⟨b, rfl, b1, b2⟩ := hb
        have hd9 := s9 _ _ hd8
        have he9 := s9 _ _ he8
        refine ⟨_, rfl, by show 2 ≤ sizeLine; decide, fun t ht => ?_⟩
        have s10 : Same H9 (upd H9 t (.tup [.bl false, .bl true])) := same_new ht
        refine ⟨t, rfl, ⟨_, SqT.of upd_same⟩, fun D2 hD2 => lc_it (walk_tup (K := K) (a := t) (xs := [V.bl false, V.bl true])) (fun i H' => Same (upd H9 t (.tup [.bl false, .bl true])) H' ∧ ∃ us, H' D2 = some (.lst us) ∧ Paired (RowA D2 (fun c => (marksIn l h).map (put ⟨b, c⟩)) H') us ([false, true].take i)) ⟨same_new hD2, [], upd_same, .nil⟩ (fun i H' _ z => SqT.of (z.1 _ _ upd_same)) ?_ ?_⟩
        · rintro i x H12 H11 hi ⟨s11, us, hus, hpu⟩ ⟨rfl, hxi⟩
          obtain ⟨rfl, hi2⟩ := two_bl hxi
          have hci : [false, true][i]? = some (i == 1) := by
            match i, hi2 with
            | 0, _ => rfl
            | 1, _ => rfl
          have hok : Kd.Ok ⟨b, i == 1⟩ := ⟨b1, b2⟩
          have hd11 := s11 _ _ (s10 _ _ hd9)
          refine ⟨rfl, _, rfl, D, rfl, ⟨_, SqL.of hd11⟩, fun D3 hD3 => lc_new (K := K) sta_i ((marksIn l h).map (put ⟨b, i == 1⟩)) (by simp) (by simp; omega) hD3 (SqL.of hd11) (fun j y H' hj s' Q' c => ?_) (fun bs H13 s13 hd13 hb13 => ?_)⟩
          · rw [List.getElem?_map] at hj
            cases hn : (marksIn l h)[j]? with
            | none => rw [hn] at hj; cases hj
            | some n =>
              rw [hn] at hj
              cases hj
              refine ⟨rfl, _, rfl, _, rfl, by show 2 ≤ sizeLine; decide, fun tt htt => ⟨_, rfl, _, ⟨b, i == 1⟩, n, rfl, ⟨tt, rfl, upd_same⟩, hok, ?_⟩⟩
              exact c _ _ _ (by rw [List.getElem?_map, hn]; rfl) (same_new htt) rfl
          · rw [ints_of hb13] at hd13
            have hD32 : D3 ≠ D2 := fun z => by rw [z, hus] at hD3; cases hD3
            refine ⟨us, s13 _ _ hus, small (by rw [PySem.Paired.length hpu, List.length_take]; show min _ 2 ≤ _; omega), same_own (s11.trans s13) hD2, us ++ [.ref D3], upd_same, ?_⟩
            rw [List.take_add_one, hci]
            refine Paired.app (L2.Paired.mapP hpu fun v c r => ?_) (.cons ⟨D3, rfl, hD32, ?_⟩ .nil)
            · obtain ⟨a, ea, na, ha⟩ := r
              exact ⟨a, ea, na, by rw [upd_ne na]; exact s13 _ _ ha⟩
            · rw [upd_ne hD32]; exact hd13
        · rintro H11 ⟨s11, us, hus, hpu⟩
          have hpu : Paired (RowA D2 (fun c => (marksIn l h).map (put ⟨b, c⟩)) H11) us [false, true] := hpu
          have hne : ∀ c : Bool, (marksIn l h).map (put ⟨b, c⟩) ≠ (marksIn l h).map (castL ks) := fun c => by
            obtain ⟨n, hn, hd⟩ := hM ⟨b, c⟩ ⟨b1, b2⟩
            exact map_ne ⟨n, hn, fun z => hd z.symm⟩
          refine ⟨.list (((marksIn l h).map (castL ks)).map PyData.int), [false, true].map fun c => .list (((marksIn l h).map (put ⟨b, c⟩)).map PyData.int), dp_ints ⟨E1, _, rfl, s11 _ _ (s10 _ _ he9), of_ints _⟩, .lst (SqL.of hus) (dp_all (fun v c r => ?_) hpu), shaped_ints _, shaped_list fun d m => ?_, _, rfl, ?_⟩
          · obtain ⟨a, rfl, _, ha⟩ := r
            exact dp_ints ⟨a, _, rfl, ha, of_ints _⟩
          · obtain ⟨c, _, rfl⟩ := List.mem_map.mp m
            exact flat_ints _
          · have eany : (([false, true].map fun c => PyData.list (((marksIn l h).map (put ⟨b, c⟩)).map PyData.int)).any fun z => PyData.eqv z (.list (((marksIn l h).map (castL ks)).map PyData.int))) = false := by
              simp only [List.map_cons, List.map_nil, List.any_cons, List.any_nil, eqv_list PyData.int eqv_int, decide_eq_false (hne false), decide_eq_false (hne true), Bool.or_false]
            rw [eany]
            exact iteF ⟨(s9.trans s10).trans s11, _, rfl⟩
      · rintro σ H9 ⟨s9, o7, rfl⟩
        exact hQ _ (s28.trans s9)
end
end Fw



/-! _law_short_right. -/
namespace Fw
open PySem PySem.Spec PyProof.Rows L2 Rw
theorem put_put (k : Kd) (n : Int) : put k (put k n) = put k n := by
  obtain ⟨h0, h1⟩ := put_in k n
  exact put_self h0 h1
theorem cast_put (k : Kd) (ks : List Kd) (n : Int) : castL (k :: ks) (put k n) = castL (k :: ks) n := by
  rw [castL_cons, castL_cons, put_put]
/-- the two that are alike are one -/
theorem eff_same {ks js : List Kd} (h0 : ks ≠ []) (h1 : ∀ k ∈ ks, k.Ok) (g0 : js ≠ []) (g1 : ∀ k ∈ js, k.Ok) (h : ∀ n, castL ks n = castL js n) : effOf ks = effOf js :=
  row_parts (effOf_ok h0 h1) (effOf_ok g0 g1) (parts_of_all (effOf_ok h0 h1) (effOf_ok g0 g1) fun n => by rw [effOf_fn h0 h1, effOf_fn g0 g1, h n])
section
variable {k : Kd} {ks own : List Kd} (hk : k.Ok) (hr : RowOk ks)
include hk hr
theorem own_ok (ho : Sf k (effOf (k :: ks)) own) : 1 ≤ own.length ∧ own.length ≤ 2 ∧ ∀ j ∈ own, j.Ok := by
  cases ho with
  | one c hc h hb => exact ⟨Nat.le_refl _, by show 1 ≤ 2; decide, fun j m => by simp at m; rw [m]; exact hc⟩
  | row h =>
    refine ⟨?_, ?_, row_ok (eff_kd hk hr)⟩ <;> rw [row_len] <;> split <;> omega
theorem own_cast (ho : Sf k (effOf (k :: ks)) own) (n : Int) : castL (k :: own) n = castL (k :: ks) n := by
  have h1 := fn_cast hk hr.2.2 n
  cases ho with
  | one c hc h hb =>
    have h2 := fn_cast (ks := [c]) hk (by intro j m; simp at m; rw [m]; exact hc) n
    rw [← h1, ← h2]
    exact fn_parts h n
  | row h =>
    rw [castL_cons, row_cast (eff_kd hk hr), fn_cast hk hr.2.2, cast_put]
theorem short_cast (n : Int) : castL (effOf ks).row n = castL ks n := by
  rw [row_cast (eff_row hr), effOf_fn (row_ne' hr) hr.2.2]
theorem short_ok : 1 ≤ (effOf ks).row.length ∧ (effOf ks).row.length ≤ 2 ∧ ∀ j ∈ (effOf ks).row, j.Ok := by
  refine ⟨?_, ?_, row_ok (eff_row hr)⟩ <;> rw [row_len] <;> split <;> omega
theorem own_short (ho : Sf k (effOf (k :: ks)) own) : own.length ≤ (effOf ks).row.length := by
  obtain ⟨h1, h2, h3⟩ := own_ok hk hr ho
  obtain ⟨g1, g2, g3⟩ := short_ok hk hr
  cases ho with
  | one c hc h hb => exact g1
  | row h =>
    by_cases c : (effOf ks).row.length = 1
    · exfalso
      obtain ⟨d, hd⟩ := List.length_eq_one_iff.mp c
      have hdo : d.Ok := g3 d (by rw [hd]; simp)
      refine h d hdo ?_
      have e := eff_same (ks := [k, d]) (js := k :: ks) (by simp) (by intro j m; simp at m; rcases m with rfl | rfl <;> assumption) (by simp) (row_all hk hr) fun n => by
        have := short_cast hk hr (put k n)
        rw [hd] at this
        rw [castL_cons, castL_cons k ks, this]
      rw [e]
    · omega
theorem own_marks (ho : Sf k (effOf (k :: ks)) own) (h2 : own.length = 2) : ∀ c : Kd, c.Ok → ∃ n ∈ marksIn (Rw.lo k) (Rw.hi k), castL ks n ≠ put c n := by
  cases ho with
  | one c hc h hb => cases h2
  | row h =>
    intro c hc
    have oc : (effOf [k, c]).Ok := effOf_ok (by simp) (by intro j m; simp at m; rcases m with rfl | rfl <;> assumption)
    have fc : ∀ n, Rw.lo k ≤ n → n ≤ Rw.hi k → (effOf [k, c]).fn n = put c n := fun n n0 n1 => by
      rw [fn_cast hk (by intro j m; simp at m; rw [m]; exact hc), cast_in n0 n1]; rfl
    have fe : ∀ n, Rw.lo k ≤ n → n ≤ Rw.hi k → (effOf (k :: ks)).fn n = castL ks n := fun n n0 n1 => by
      rw [fn_cast hk hr.2.2, cast_in n0 n1]
    have inm : ∀ n, n ∈ marksOf (Rw.lo k) (Rw.hi k) 130 → Rw.lo k ≤ n → n ≤ Rw.hi k → n ∈ marksIn (Rw.lo k) (Rw.hi k) := fun n hn n0 n1 => List.mem_filter.mpr ⟨hn, by rw [decide_eq_true n0, decide_eq_true n1]; rfl⟩
    rcases part_in hk oc (eff_kd hk hr) (h c hc) (effOf_b k [c]) (effOf_b k ks) with z | ⟨i, hi, i0, i1, z⟩
    · refine ⟨Rw.lo k, inm _ (marks_low ..) (Int.le_refl _) lo_hi, fun y => z ?_⟩
      rw [fc _ (Int.le_refl _) lo_hi, fe _ (Int.le_refl _) lo_hi, y]
    · refine ⟨P2 i, inm _ (marks_P2 _ _ (by omega)) i0 i1, fun y => z ?_⟩
      rw [fc _ i0 i1, fe _ i0 i1, y]
theorem short_marks (h2 : (effOf ks).row.length = 2) : ∀ c : Kd, c.Ok → ∃ n ∈ marksIn (0 - P2 130) (P2 130), castL ks n ≠ put c n := by
  intro c hc
  have ec : effOf [c] = ⟨c.w, c.w, c.s⟩ := by
    show (Es.init c).fin = _
    unfold Es.init Es.fin
    cases c.s <;> simp
  have oc : (effOf [c]).Ok := effOf_ok (by simp) (by intro j m; simp at m; rw [m]; exact hc)
  have og := eff_row hr
  have hne : (effOf [c]).parts ≠ (effOf ks).parts := fun z => by
    have e := row_parts oc og z
    rw [← e, row_len, ec, if_pos rfl] at h2
    cases h2
  obtain ⟨z, -⟩ := part_at oc og hne
  have hb : max (effOf [c]).b (effOf ks).b - 1 < 130 := by
    have h1 := oc.bw
    have h3 := oc.w128
    have h4 := og.bw
    have h5 := og.w128
    omega
  have hp := P2_pos (max (effOf [c]).b (effOf ks).b - 1)
  have hq : P2 (max (effOf [c]).b (effOf ks).b - 1) ≤ P2 130 := P2_le (by omega)
  refine ⟨_, List.mem_filter.mpr ⟨marks_P2 _ _ hb, ?_⟩, fun y => z ?_⟩
  · rw [decide_eq_true (by omega), decide_eq_true hq]; rfl
  · rw [effOf_fn (by simp) (by intro j m; simp at m; rw [m]; exact hc), effOf_fn (row_ne' hr) hr.2.2, y]
    rfl
end
section
variable {P : Program} {w : World} {K : PySem.W.Frag} {mg : Str → Option Value} {base : Heap}
abbrev DKi (K : PySem.W.Frag) : Eqv := DIns (CK K) (REq K)
theorem ki_mon : Mon (DKi K) := mon_ins fun _ _ _ _ e ⟨k, h1, h2⟩ => ⟨k, KiAt.mono _ _ _ _ e h1, KiAt.mono _ _ _ _ e h2⟩
theorem ki_eqG {X : Cx} (m : C8.Met X.prog X.w X.K X.mg X.base 2 (CK X.K) "__eq__" (spEq (REq X.K)) []) : EqG X 2 (DKi X.K) := by
  obtain ⟨f, fd, ps, ds, _, hm, F, b, d⟩ := m.ex
  cases d
  exact eqG_ins F hm.at_ hm.fn b (C8.pass0 (E := C8.E0))
theorem ki_lists {H : Hp} {u v : V} {ks : List Kd} (h1 : KsAt K H u ks) (h2 : KsAt K H v ks) : DList (DKi K) u v H := by
  obtain ⟨a, xs, rfl, ha, hx⟩ := h1
  obtain ⟨b, ys, rfl, hb, hy⟩ := h2
  refine ⟨a, b, xs, ys, rfl, rfl, ha, hb, by rw [PySem.Paired.length hx, PySem.Paired.length hy], fun i x y ex ey => ?_⟩
  obtain ⟨k, hk, kx⟩ := Paired.get hx ex
  obtain ⟨j, hj, ky⟩ := Paired.get hy ey
  have : k = j := Option.some.inj (hk.symm.trans hj)
  subst this
  have kx2 := kx
  have ky2 := ky
  obtain ⟨p, dp, rfl, hp⟩ := kx
  obtain ⟨q, dq, rfl, hq⟩ := ky
  exact ⟨p, q, dp, dq, _, _, rfl, rfl, hp, hq, k, kx2, ky2⟩
def spLaw3' : Sp := fun vs H Q _ => ∃ (S : Addr) (v u : V) (k : Kd) (ks : List Kd), vs = [.ref S, v, u] ∧ SrcAt H S ∧ ShAt H v k ∧ k.Ok ∧ RwsAt H u ks ∧ RowOk19 ks ∧ ∀ H', SamX S H H' → SrcAt H' S → Q (.bl true) H'
abbrev N_Lshort_right : List Str := ["_law_source", "_law_shape_here", "_law_rows_here", "_law_mine", "_law_plan", "_law_short", "_law_own", "_law_low", "_law_high", "_law_some_here", "_law_n"]
theorem sc_Lshort_right : FnScope N_Lshort_right ["_law_source", "_law_shape_here", "_law_rows_here"] (defScope s_Lshort_right) := ⟨rfl, rfl, rfl, by decide +kernel, rfl, by decide +kernel, by decide +kernel⟩
theorem c_Lshort_right (T : Tx K mg) : C8.Cal P w K mg base 7 "_law_short_right" spLaw3' [] := by
  have k_Kind : C8.Mak P w K mg base 3 "Kind" (CK K) (spKiInit K) [] := k_Kind T
  have m_Kind_eq : C8.Met P w K mg base 2 (CK K) "__eq__" (spEq (REq K)) [] := m_Kind_eq T
  have c_Lmade : C8.Cal P w K mg base 5 "_law_made" (spMade K) [] := c_Lmade T
  have c_shortest : C8.Cal P w K mg base 6 "shortest" (spShort K) [] := c_shortest T
  have c_shortest_for : C8.Cal P w K mg base 6 "shortest_for" (spSF K) [] := c_shortest_for T
  have c_apart_total : C8.Cal P w K mg base 6 "apart_total" (spApTot K) [] := c_apart_total T
  have c_do_same : C8.Cal P w K mg base 4 "do_same" (spDo K) [] := c_do_same T
  have c_Lrange : C8.Cal P w K mg base 1 "_law_range" spRange [] := c_Lrange T
  have c_Lcast : C8.Cal P w K mg base 2 "_law_cast" spLcast [] := c_Lcast T
  have c_Lsome : C8.Cal P w K mg base 3 "_law_some" spSome [] := c_Lsome T
  have c_Lparts : C8.Cal P w K mg base 2 "_law_parts" (spParts K) [] := c_Lparts T
  have c_Lhas_single : C8.Cal P w K mg base 3 "_law_has_single" spHas [] := c_Lhas_single T
  refine T.cal 62 53 rfl rfl sc_Lshort_right ?_ (fun _ _ _ _ _ _ us hl => match us, hl with | [_, _, _], _ => rfl) ?_
  · rintro vs H Q E ⟨S, v, u, k, ks, rfl, _⟩; rfl
  · rintro cdv A outer s H vs Q E hr ⟨S, v, u, k, ks, rfl, hS, hv, hk, hu, hro, h⟩
    refine ⟨_, (pss_cons (ps_par (i := 3) (j := 4) rfl sc_Lshort_right.nd rfl rfl (by decide) rfl rfl (pa_cons (C8.pe_mk k_Kind hr (by decide) rfl (pa_cons (pe_ix ix_tup (pv 1) pe_int (fun _ _ => rfl)) (pa_cons (pe_ix ix_tup (pv 1) pe_int (fun _ _ => rfl)) pa_nil))) (pa_cons (C8.pe_c c_Lmade hr (by decide) rfl (pa_cons (pv 2) pa_nil)) pa_nil)) (by rfl))
      (pss_cons (ps_asg (pe_tup (pa_cons (C8.pe_c c_shortest hr (by decide) rfl (pa_cons (pv 4) pa_nil)) (pa_cons (C8.pe_c c_shortest_for hr (by decide) rfl (pa_cons (pv 3) (pa_cons (pv 4) pa_nil))) pa_nil))) (pg_tup rfl (pgs_cons (pg_name (i := 5) sc_Lshort_right.nd rfl (Or.inl rfl)) (pgs_cons (pg_name (i := 6) sc_Lshort_right.nd rfl (Or.inr rfl)) pgs_nil))))
      (pss_cons (ps_if (PW.pt (pw_or (pt_not (FwR.pt_chain3 op_le op_le op_le pe_int (pe_callB call_len_seq (by rfl) T.n_len boot_len_ (pa_cons (pv 6) pa_nil)) (pe_callB call_len_seq (by rfl) T.n_len boot_len_ (pa_cons (pv 5) pa_nil)) pe_int)) (pw_or (pt_not (pt_val (C8.pe_c c_do_same hr (by decide) rfl (pa_cons (pv 5) (pa_cons (pv 4) pa_nil))))) (pw_or1 (pt_cmpR op_nei (C8.pe_c c_apart_total hr (by decide) rfl (pa_cons (pv 3) (pa_cons (pv 6) (pa_cons (pv 4) pa_nil)))) pe_int (nomark _)))))) (pss_one (ps_ret pe_bl)) pss_nil)
      (pss_cons (ps_if (PW.pt (pw_or (pt_cmpR (FwR.op_neG ki_mon (ki_eqG m_Kind_eq) (hr.mono (by decide))) (pv 6) (C8.pe_c c_shortest_for hr (by decide) rfl (pa_cons (pv 3) (pa_cons (pv 5) pa_nil))) (nomark _)) (pw_or (pt_cmpR (FwR.op_neG ki_mon (ki_eqG m_Kind_eq) (hr.mono (by decide))) (pv 5) (C8.pe_c c_shortest hr (by decide) rfl (pa_cons (pv 5) pa_nil)) (nomark _)) (pw_or1 (pt_not (pt_val (C8.pe_c c_do_same hr (by decide) rfl (pa_cons (pe_op op_cat (pe_lst (pa_cons (pv 3) pa_nil)) (pv 6)) (pa_cons (pe_op op_cat (pe_lst (pa_cons (pv 3) pa_nil)) (pv 4)) pa_nil))))))))) (pss_one (ps_ret pe_bl)) pss_nil)
      (pss_cons (ps_asg (C8.pe_c c_Lrange hr (by decide) rfl (pa_cons (pv 1) pa_nil)) (pg_tup rfl (pgs_cons (pg_name (i := 7) sc_Lshort_right.nd rfl (Or.inl rfl)) (pgs_cons (pg_name (i := 8) sc_Lshort_right.nd rfl (Or.inl rfl)) pgs_nil))))
      (pss_cons (ps_if (PW.pt (pw_and (pt_cmpR op_eqi (pe_callB call_len_seq (by rfl) T.n_len boot_len_ (pa_cons (pv 6) pa_nil)) pe_int (nomark _)) (pw_and1 (pt_val (C8.pe_c c_Lhas_single hr (by decide) rfl (pa_cons (pv 7) (pa_cons (pv 8) (pa_cons (pv 2) (pa_cons (pe_lst (pa_cons (pv 1) pa_nil)) pa_nil))))))))) (pss_one (ps_ret pe_bl)) pss_nil)
      (pss_cons (ps_if (PW.pt (pw_and (pt_cmpR op_eqi (pe_callB call_len_seq (by rfl) T.n_len boot_len_ (pa_cons (pv 5) pa_nil)) pe_int (nomark _)) (pw_and1 (pt_val (C8.pe_c c_Lhas_single hr (by decide) rfl (pa_cons (pe_op op_sub pe_int (pe_op op_shl1 pe_int pe_int)) (pa_cons (pe_op op_shl1 pe_int pe_int) (pa_cons (pv 2) (pa_cons (pe_lst pa_nil) pa_nil))))))))) (pss_one (ps_ret pe_bl)) pss_nil)
      (pss_cons (ps_set (i := 9) sc_Lshort_right.nd rfl (Or.inl rfl) (C8.pe_c c_Lsome hr (by decide) rfl (pa_cons (pv 0) (pa_cons (pv 1) pa_nil))))
      (pss_one (ps_ret (pe_cmpR (op_eqD hr.units) (pe_lc (own := [("_law_n", 10)]) (g := gName 10) (tt := (_)) (te := (_)) rfl sc_Lshort_right.nd (pi_list (pv 9)) (blkOk_by (own := [("_law_n", 10)]) (N := N_Lshort_right) (sc := (defScope s_Lshort_right)) (by decide +kernel)) (fun _ _ _ _ _ => (pg_name (i := 10) sc_Lshort_right.nd rfl (Or.inl rfl))) (fun _ _ _ _ _ => (pts_one (pt_cmpR op_nei (C8.pe_c c_Lcast hr (by decide) rfl (pa_cons (C8.pe_c c_Lparts hr (by decide) rfl (pa_cons (pv 6) pa_nil)) (pa_cons (pv 10) pa_nil))) (C8.pe_c c_Lcast hr (by decide) rfl (pa_cons (pv 2) (pa_cons (pv 10) pa_nil))) (nomark _)))) (fun _ _ _ _ _ => (pv 10))) (pe_lst pa_nil) (nomark _)))))))))))), ?_⟩
    obtain ⟨p, rfl, hp⟩ := hv
    have hoks := hro.2.2
    have hok := hro.ok
    have l19 := hro.2.1
    refine ⟨_, rfl, p, _, _, _, rfl, rfl, SqT.of hp, rfl, _, rfl, p, _, _, _, rfl, rfl, SqT.of hp, rfl, ?_⟩
    intro x dx hx hd hne
    refine make_kind (k := k) hx hd hne hk fun H1 s1 hx1 => ?_
    refine ⟨_, rfl, u, ks, rfl, rws_mono s1 hu, hoks, by omega, fun pl H2 s2 hpl => ⟨_, _, rfl, ?_⟩⟩
    have s12 := s1.trans s2
    refine ⟨_, rfl, pl, ks, rfl, hpl, hok, fun sh H3 s3 hsh => ?_⟩
    have s13 := s12.trans s3
    refine ⟨_, rfl, _, rfl, _, pl, k, ks, rfl, ki_mono (s2.trans s3) hx1, hk, ks_mono s3 hpl, hok, fun ow H4 own s4 hsf how => ?_⟩
    have s14 := s13.trans s4
    refine ⟨by show 2 ≤ sizeLine; decide, fun t ht => ⟨t, _, rfl, SqT.of upd_same, rfl, _, _, rfl, _, _, rfl, rfl, ?_⟩⟩
    have st : Same H4 (upd H4 t (.tup [sh, ow])) := same_new ht
    have s15 := s14.trans st
    have hx5 := ki_mono ((s2.trans s3).trans (s4.trans st)) hx1
    have hpl5 := ks_mono (s3.trans (s4.trans st)) hpl
    have hsh5 := ks_mono (s4.trans st) hsh
    have how5 := ks_mono st how
    generalize upd H4 t (.tup [sh, ow]) = H5 at *
    obtain ⟨w1, w2, w3⟩ := own_ok hk hok hsf
    obtain ⟨g1, g2, g3⟩ := short_ok hk hok
    have hos := own_short hk hok hsf
    have rok : RowOk own := ⟨w1, by omega, w3⟩
    have rsh : RowOk (effOf ks).row := ⟨g1, by omega, g3⟩
    have e1 : effOf (effOf ks).row = effOf ks := row_eff (eff_row hok)
    have e2 : effOf (k :: own) = effOf (k :: ks) := eff_same (by simp) (row_all hk rok) (by simp) (row_all hk hok) (own_cast hk hok hsf)
    have e3 : effOf (k :: (effOf ks).row) = effOf (k :: ks) := eff_same (by simp) (row_all hk rsh) (by simp) (row_all hk hok) fun n => by rw [castL_cons, castL_cons, short_cast hk hok]
    obtain ⟨oa, ous, rfl, hoa, hous⟩ := how5
    obtain ⟨sa, sus, rfl, hsa, hsus⟩ := hsh5
    have how5 : KsAt K H5 (.ref oa) own := ⟨oa, ous, rfl, hoa, hous⟩
    have hsh5 : KsAt K H5 (.ref sa) (effOf ks).row := ⟨sa, sus, rfl, hsa, hsus⟩
    have hlo := PySem.Paired.length hous
    have hls := PySem.Paired.length hsus
    refine ⟨_, rfl, oa, ous, rfl, .inl (SqL.of hoa), _, _, rfl, rfl, _, rfl, ?_⟩
    rw [decide_eq_true (by omega : (1 : Int) ≤ (ous.length : Int))]
    refine iteT ⟨_, rfl, sa, sus, rfl, .inl (SqL.of hsa), _, _, rfl, rfl, _, rfl, ?_⟩
    rw [decide_eq_true (by omega : (ous.length : Int) ≤ (sus.length : Int))]
    refine iteT ⟨_, _, rfl, rfl, _, rfl, ?_⟩
    rw [decide_eq_true (by omega : (sus.length : Int) ≤ 2)]
    refine iteF ⟨_, rfl, _, rfl, _, _, (effOf ks).row, ks, rfl, hsh5, rsh, hpl5, hok, fun H6 s6 => ⟨_, rfl, ?_⟩⟩
    rw [e1, decide_eq_true rfl]
    refine iteF ⟨_, rfl, _, rfl, _, rfl, _, _, _, k, own, ks, rfl, ki_mono s6 hx5, hk, ks_mono s6 how5, rok, ks_mono s6 hpl5, hok, fun H7 s7 => ⟨_, _, rfl, rfl, _, rfl, ?_⟩⟩
    have e4 : cA2 k own ks (Rw.lo k + P2 k.w) = 0 := (cA2_cnt hk rok hok).zero (by have := P2_pos k.w; omega) fun n _ _ => fun z => z (own_cast hk hok hsf n)
    rw [e4, decide_eq_true rfl]
    refine iteF ?_
    have s57 := s6.trans s7
    refine ⟨_, rfl, _, rfl, _, rfl, _, _, k, (effOf ks).row, rfl, ki_mono s57 hx5, hk, ks_mono s57 hsh5, rsh, fun ow2 H8 own2 s8 hsf2 how2 => ?_⟩
    rw [e3] at hsf2
    have e5 : own2 = own := hsf2.same hsf
    subst e5
    have s58 := s57.trans s8
    refine ⟨ki_lists (ks_mono s58 how5) how2, fun H9 s9 => ⟨_, rfl, iteF ?_⟩⟩
    have s59 := s58.trans s9
    refine ⟨_, rfl, _, rfl, _, (effOf ks).row, rfl, ks_mono s59 hsh5, rsh, fun sh2 H10 s10 hsh2 => ?_⟩
    rw [e1] at hsh2
    have s510 := s59.trans s10
    refine ⟨ki_lists (ks_mono s510 hsh5) hsh2, fun H11 s11 => ⟨_, rfl, iteF ?_⟩⟩
    have s511 := s510.trans s11
    have hx11 := ki_mono s511 hx5
    have how11 := ks_mono s511 how5
    have hpl11 := ks_mono s511 hpl5
    refine ⟨_, rfl, by show 1 ≤ sizeLine; decide, fun l1 hl1 => ?_⟩
    have r1 := same_new (o := .lst [.ref x]) hl1
    have hoa11 := s511 _ _ hoa
    have hous11 := sta_ki.same s511 hous
    refine ⟨_, rfl, l1, oa, _, _, rfl, rfl, upd_same, r1 _ _ hoa11, small' (by simp; omega), fun l2 hl2 => ?_⟩
    have r2 := r1.trans (same_new (o := .lst ([.ref x] ++ ous)) hl2)
    refine ⟨_, rfl, by show 1 ≤ sizeLine; decide, fun l3 hl3 => ?_⟩
    have r3 := r2.trans (same_new (o := .lst [.ref x]) hl3)
    obtain ⟨pa, pus, rfl, hpa, hpus⟩ := hpl11
    have hlp := PySem.Paired.length hpus
    refine ⟨_, rfl, l3, pa, _, _, rfl, rfl, upd_same, r3 _ _ hpa, small' (by simp; omega), fun l4 hl4 => ?_⟩
    have r4 := r3.trans (same_new (o := .lst ([.ref x] ++ pus)) hl4)
    refine ⟨_, _, k :: own2, k :: ks, rfl, ⟨l2, _, rfl, same_new hl4 _ _ (same_new hl3 _ _ upd_same), .cons (ki_mono r4 hx11) (sta_ki.same r4 hous11)⟩, ⟨by simp, by simp; omega, row_all hk rok⟩, ⟨l4, _, rfl, upd_same, .cons (ki_mono r4 hx11) (sta_ki.same r4 hpus)⟩, hro.cons hk, fun H12 r5 => ⟨_, rfl, ?_⟩⟩
    rw [e2, decide_eq_true rfl]
    refine iteF ?_
    have s012 := s15.trans (s511.trans (r4.trans r5))
    have s512 := s511.trans (r4.trans r5)
    refine ⟨_, rfl, _, k, rfl, ⟨p, rfl, s012 _ _ hp⟩, hk, fun rg H13 s13' hrg => ?_⟩
    obtain ⟨q, rfl, hq⟩ := hrg
    refine ⟨q, _, rfl, SqT.of hq, rfl, _, _, rfl, _, _, rfl, rfl, ?_⟩
    have s013 := s012.trans s13'
    have s513 := s512.trans s13'
    have hoa13 := s513 _ _ hoa
    refine ⟨_, rfl, oa, ous, rfl, .inl (SqL.of hoa13), _, _, rfl, rfl, _, rfl, ?_⟩
    have A1 : ∀ F : Bool → Hp → Prop, (∀ H', Same H13 H' → F false H') → if decide ((ous.length : Int) = 2) = true then tB (tCall spHas [] C8.E0 (tCons (tVar 7) (tCons (tVar 8) (tCons (tVar 2) (tCons (tLst (tCons (tVar 1) tNil)) tNil)))))
        [some (.ref S), some (.ref p), some u, some (.ref x), some (.ref pa), some (.ref sa), some (.ref oa), some (.int (Rw.lo k)), some (.int (Rw.hi k)), none, none] H13 F else F false H13 := by
      intro F hF
      by_cases c : (ous.length : Int) = 2
      · rw [decide_eq_true c]
        refine iteT ⟨_, rfl, _, rfl, _, rfl, _, rfl, by show 1 ≤ sizeLine; decide, fun m hm => ⟨Rw.lo k, Rw.hi k, u, .ref m, ks, [k], rfl, rws_mono (s013.trans (same_new hm)) hu, hoks, ⟨m, _, rfl, upd_same, .cons (sh_mono (s013.trans (same_new hm)) ⟨p, rfl, hp⟩) .nil⟩, ?_, ?_, own_marks hk hok hsf (by omega), fun H' s' => ⟨_, rfl, hF H' ((same_new hm).trans s')⟩⟩⟩
        · intro j hj
          simp at hj
          rw [hj]
          exact hk
        · show ks.length + 1 ≤ 50
          omega
      · rw [decide_eq_false c]
        exact iteF (hF _ (Same.refl _))
    refine A1 _ fun H14 s14' => iteF ?_
    have s514 := s513.trans s14'
    have s014 := s013.trans s14'
    have hsa14 := s514 _ _ hsa
    refine ⟨_, rfl, sa, sus, rfl, .inl (SqL.of hsa14), _, _, rfl, rfl, _, rfl, ?_⟩
    have A2 : ∀ F : Bool → Hp → Prop, (∀ H', Same H14 H' → F false H') → if decide ((sus.length : Int) = 2) = true then tB (tCall spHas [] C8.E0 (tCons (tOp (rI0 fun i j => V.int (i - j)) (tC (.int 0)) (tOp (fun x y H Q => ∃ n : Nat, x = .int 1 ∧ y = .int (n : Int) ∧ n ≤ 1000000 ∧ Q (.int (P2 n)) H) (tC (.int 1)) (tC (.int 130)))) (tCons (tOp (fun x y H Q => ∃ n : Nat, x = .int 1 ∧ y = .int (n : Int) ∧ n ≤ 1000000 ∧ Q (.int (P2 n)) H) (tC (.int 1)) (tC (.int 130))) (tCons (tVar 2) (tCons (tLst tNil) tNil)))))
        [some (.ref S), some (.ref p), some u, some (.ref x), some (.ref pa), some (.ref sa), some (.ref oa), some (.int (Rw.lo k)), some (.int (Rw.hi k)), none, none] H14 F else F false H14 := by
      intro F hF
      by_cases c : (sus.length : Int) = 2
      · rw [decide_eq_true c]
        refine iteT ⟨130, rfl, rfl, by decide, _, _, rfl, rfl, 130, rfl, rfl, by decide, _, rfl, by show 0 ≤ sizeLine; decide, fun m hm => ⟨0 - P2 130, P2 130, u, .ref m, ks, [], rfl, rws_mono (s014.trans (same_new hm)) hu, hoks, ⟨m, _, rfl, upd_same, .nil⟩, by simp, ?_, short_marks hk hok (by omega), fun H' s' => ⟨_, rfl, hF H' ((same_new hm).trans s')⟩⟩⟩
        show ks.length + 0 ≤ 50
        omega
      · rw [decide_eq_false c]
        exact iteF (hF _ (Same.refl _))
    refine A2 _ fun H15 s15' => iteF ?_
    have s515 := s514.trans s15'
    have s015 := s014.trans s15'
    have hS15 := src_same s015 hS
    refine ⟨_, rfl, _, rfl, S, _, k, rfl, hS15, ⟨p, rfl, s015 _ _ hp⟩, hk, fun tn H16 ns hlen hin sx hS16 htn => ?_⟩
    obtain ⟨b, bs, rfl, hb, hbs⟩ := htn
    have hu16 := ref_sh.ls hS15 sx (rws_mono s015 hu)
    have how16 := ref_ki.ls hS15 sx (ks_mono s515 how5)
    refine ⟨_, rfl, b, rfl, ⟨_, SqL.of hb⟩, fun D2 hD2 => lc_fil (K := K) ns (fun n => !decide (castL own2 n = castL ks n)) V.int (fun n => [some (.ref S), some (.ref p), some u, some (.ref x), some (.ref pa), some (.ref sa), some (.ref oa), some (.int (Rw.lo k)), some (.int (Rw.hi k)), some (.ref b), some (.int n)]) (PySem.Paired.length hbs) (by omega) hD2 (SqL.of hb) (fun i y n H' kk hi hn s' hkk => ?_) (fun _ => rfl) (fun n H' Q' _ s' c => ?_) (fun n H' Q' _ s' c => ⟨_, rfl, c⟩) (fun H17 s17 hd17 => ?_)⟩
    · obtain ⟨n', hn', rfl⟩ := Paired.get hbs hi
      have : n = n' := Option.some.inj (hn.symm.trans hn')
      subst this
      exact hkk
    · refine ⟨_, rfl, _, own2, rfl, ks_mono s' how16, by omega, fun pu H18 s18 hpu => ?_⟩
      exact ⟨_, rfl, pu, own2, n, rfl, hpu, w3, _, rfl, _, rfl, u, ks, n, rfl, rws_mono (s'.trans s18) hu16, hoks, _, _, rfl, rfl, _, rfl, c _ s18⟩
    · have hfil : ns.filter (fun n => !decide (castL own2 n = castL ks n)) = [] := by
        rw [List.filter_eq_nil_iff]
        intro n hn
        obtain ⟨n0, n1⟩ := hin n hn
        have := own_cast hk hok hsf n
        rw [cast_in n0 n1, cast_in n0 n1] at this
        simpa using this
      rw [hfil] at hd17
      refine ⟨by show 0 ≤ sizeLine; decide, fun e he => ⟨_, _, dp_nil (same_new he _ _ hd17), dp_nil upd_same, shaped_pDs [], shaped_pDs [], ?_⟩⟩
      refine h _ ((SamX.of s015).trans (sx.trans ((SamX.of s17).trans (SamX.of (same_new he))))) (src_same (s17.trans (same_new he)) hS16)
end
end Fw



/-! _law_origins_right. -/
namespace Fw
open PySem PySem.Spec PyProof.Rows L2 Rw
/-- all stays but the source and tables -/
def SamN (S : Addr) (H H' : Hp) : Prop := ∀ a o, a ≠ S → (∀ ps, o ≠ .tbl ps) → H a = some o → H' a = some o
theorem SamN.of {S : Addr} {H H' : Hp} (s : SamX S H H') : SamN S H H' := fun a o n _ e => s a o n e
theorem SamN.ofN {S : Addr} {H H' : Hp} (s : LamX.ExtN H H') : SamN S H H' := fun a o _ t e => s a o e t
theorem SamN.refl (S : Addr) (H : Hp) : SamN S H H := fun _ _ _ _ e => e
theorem SamN.trans {S : Addr} {H H1 H2 : Hp} (a : SamN S H H1) (b : SamN S H1 H2) : SamN S H H2 := fun p o n t e => b p o n t (a p o n t e)
/-- what neither touches -/
structure RefN {α : Type} (R : Hp → V → α → Prop) : Prop where
  ref : ∀ H v x, R H v x → ∃ p, v = .ref p
  keep : ∀ H H' S v x, SrcAt H S → SamN S H H' → R H v x → R H' v x
theorem refN_ki {K : PySem.W.Frag} : RefN (KiAt K) := ⟨fun _ _ _ ⟨p, _, e, _⟩ => ⟨p, e⟩, fun H H' S v x h s ⟨p, dx, e, hp⟩ => ⟨p, dx, e, s _ _ (src_ne_o h hp (fun _ z => by cases z)) (fun _ z => by cases z) hp⟩⟩
theorem refN_sh : RefN ShAt := ⟨fun _ _ _ ⟨p, e, _⟩ => ⟨p, e⟩, fun H H' S v x h s ⟨p, e, hp⟩ => ⟨p, e, s _ _ (src_ne_o h hp (fun _ z => by cases z)) (fun _ z => by cases z) hp⟩⟩
theorem refN_rg : RefN RgAt := ⟨fun _ _ _ ⟨p, e, _⟩ => ⟨p, e⟩, fun H H' S v x h s ⟨p, e, hp⟩ => ⟨p, e, s _ _ (src_ne_o h hp (fun _ z => by cases z)) (fun _ z => by cases z) hp⟩⟩
theorem RefN.ls {α : Type} {R : Hp → V → α → Prop} (m : RefN R) {H H' : Hp} {S : Addr} {v : V} {xs : List α} (h : SrcAt H S) (s : SamN S H H') (hl : LsAt R H v xs) : LsAt R H' v xs := by
  obtain ⟨a, us, e, ha, hp⟩ := hl
  have hne : a ≠ S := fun z => by
    obtain ⟨i, j, k, hs⟩ := h
    rw [z, hs] at ha
    have := HO.lst.inj (Option.some.inj ha)
    rw [← this] at hp
    cases hp with
    | cons h1 _ =>
      obtain ⟨p, e⟩ := m.ref _ _ _ h1
      cases e
  exact ⟨a, us, e, s _ _ hne (fun _ z => by cases z) ha, L2.Paired.mapP hp fun v x => m.keep H H' S v x h s⟩
theorem tabs_sx {T : List (Addr × Str)} {S : Addr} {H H' : Hp} (t : LamX.Tabs T H) (h : SrcAt H S) (s : SamX S H H') : LamX.Tabs T H' := fun p hp => by
  obtain ⟨ps, e, ok, all⟩ := t p hp
  refine ⟨ps, s _ _ (src_ne_o h e (fun _ z => by cases z)) e, ok, fun pos cv hc => ?_⟩
  obtain ⟨c, ec, hcc⟩ := all pos cv hc
  exact ⟨c, ec, s _ _ (src_ne_o h hcc (fun _ z => by unfold LamX.CodeO at z; cases z)) hcc⟩
theorem tabs_same {T : List (Addr × Str)} {H H' : Hp} (t : LamX.Tabs T H) (s : Same H H') : LamX.Tabs T H' := t.ext fun b o e => s b o e
theorem src_N {S : Addr} {H H' : Hp} (s : LamX.ExtN H H') (h : SrcAt H S) : SrcAt H' S := by
  obtain ⟨a, b, c, e⟩ := h
  exact ⟨a, b, c, s _ _ e (fun _ z => by cases z)⟩
/-! ### math -/
theorem rest_far {e : Ef} (o : e.Ok) {y : Int} (h : P2 200 ≤ y ∨ y ≤ - P2 200) : e.rest y = none := by
  rw [rest_none]
  have h1 := P2_pred o.b1
  have p := P2_pos (e.b - 1)
  have h2 : P2 e.b ≤ P2 128 := P2_le (by have := o.bw; have := o.w128; omega)
  have h3 : P2 e.wd ≤ P2 128 := P2_le o.w128
  have h4 : 2 * P2 128 ≤ P2 200 := P2_lt (by decide)
  have h5 := P2_pos 128
  have h6 := P2_pos e.b
  have h7 := P2_pos e.wd
  have h8 := sh_cases o
  rw [r1_iff, r2_iff]
  omega
abbrev envOr : Env := envOfC "_law_origins_right" (defScope s_Lorigins_right) 0 0 .none
section
variable {P : Program} {w : World} {K : PySem.W.Frag} {mg : Str → Option Value} {base : Heap}
abbrev cTo (K : PySem.W.Frag) : Addr × Addr := He.cT K ("_law_origins_right", none)
abbrev Tt (K : PySem.W.Frag) : List (Addr × Str) := [((cTo K).2, envOr.qual ++ "<lambda>")]
theorem Tx.calC (T : Tx K mg) (i j : Nat) {x : Str} {st : Stmt} {N ps : List Str} {k : Nat} {sp : Sp} (hi : fn[i]? = some (mkD x st)) (hj : fa[j]? = some (.glo x)) (S : FnScope N ps (defScope st)) (len : ∀ vs H Q E, sp vs H Q E → vs.length = ps.length)
    (bnd : ∀ (kV doc pm : Value) (an : Option Addr) (cdv ct : Value) (us : List Value), us.length = ps.length → bindArgs (PySem.W.fnOf x x (defArgs st) (defBody st) (defScope st) .none kV doc pm an cdv ct) ⟨us, []⟩ = pure (ps.zip us))
    (hbody : ∀ (A : Around) (outer : List Env) (s : Shared) (H : Hp) (vs : List V) (Q : VK) (E : XK), Room k (A.deeper (envOfC x (defScope st) s.heap.objs.size (He.ga K x) (.ref (He.codeOf K (x, none))))) → sp vs H Q E →
      ∃ t, PSs (cxOf C8.CX0 P w K mg base N x (defScope st) (He.ga K x) (.ref (He.codeOf K (x, none))) A outer s H E).nox (defBody st) t ∧ t { nx := fun _ H' => Q .non H', rt := Q } (start N vs) H) : C8.Cal P w K mg base (k + 1) x sp [] := by
  obtain ⟨fd, F⟩ := T.says.def_ i hi
  have F' : FunD K x x (defArgs st) (defBody st) (defScope st) [] [] (He.ga K x) fd := F
  obtain ⟨oc, od, dV, kV, doc, pm, an, cdv, ct, osl, rfl, lk, hcd, _, _⟩ := F'.ex
  obtain ⟨c, rfl⟩ := He.codeIn_ref hcd
  have ec : He.codeOf K (x, none) = c := He.codeOf_eq (p := (x, none)) lk rfl
  rw [ec] at hbody
  refine ⟨_, _, ps, [], fn_of lk hcd S len fun A outer s H vs Q E hr h => ?_, T.glo j hj, F'.kp, F'.bindsN bnd, .nil⟩
  obtain ⟨t, ht, q⟩ := hbody A outer s H vs Q E hr h
  exact ⟨t, PSs.nox ht, q⟩
def tOb (K : PySem.W.Frag) : XK → TE := fun E => tCall (spOAtR K) [] E (tCons (tVar 16) (tCons (tVar 17) (tCons (tVar 18) (tCons (tVar 15) tNil))))
theorem sc_said : FnScope ["_law_ask", "e", "_law_marks"] ["_law_ask"] (defScope s_Lsaid) := FwL.scSaid
def spOrg (K : PySem.W.Frag) : Sp := fun vs H Q _ => ∃ (S : Addr) (v u : V) (k : Kd) (ks : List Kd), vs = [.ref S, v, u] ∧ SrcAt H S ∧ ShAt H v k ∧ k.Ok ∧ RwsAt H u ks ∧ RowOk ks ∧ LamX.Tabs (Tt K) H ∧ ∀ H', SamN S H H' → SrcAt H' S → LamX.Tabs (Tt K) H' → Q (.bl true) H'
abbrev N_Lorigins_right : List Str := ["_law_source", "_law_shape_here", "_law_rows_here", "_law_told", "_law_low", "_law_high", "_law_some_here", "_law_first", "_law_last", "_law_due", "_law_great", "_law_n", "_law_at", "_law_one_here", "_law_other", "_law_many", "_law_mine", "_law_plan", "_law_y"]
theorem sc_Lorigins_right : FnScope N_Lorigins_right ["_law_source", "_law_shape_here", "_law_rows_here"] (defScope s_Lorigins_right) := ⟨rfl, rfl, rfl, by decide +kernel, rfl, by decide +kernel, by decide +kernel⟩
theorem c_Lorigins_right (T : Tx K mg) (TB : LamX.TabB base mg (cTo K).1 (cTo K).2) : C8.Cal P w K mg base 9 "_law_origins_right" (spOrg K) [] := by
  have k_Kind : C8.Mak P w K mg base 3 "Kind" (CK K) (spKiInit K) [] := k_Kind T
  have c_Lmade : C8.Cal P w K mg base 5 "_law_made" (spMade K) [] := c_Lmade T
  have c_results : C8.Cal P w K mg base 5 "results" (spRes K) [] := c_results T
  have c_origin_total : C8.Cal P w K mg base 5 "origin_total" (spTot K) [] := c_origin_total T
  have c_origin_at : C8.Cal P w K mg base 6 "origin_at" (spOAt K) [] := c_origin_at T
  have c_cast : C8.Cal P w K mg base 3 "cast" (spCast K) [] := c_cast T
  have c_Lrange : C8.Cal P w K mg base 1 "_law_range" spRange [] := c_Lrange T
  have c_Lcast : C8.Cal P w K mg base 2 "_law_cast" spLcast [] := c_Lcast T
  have c_Lsome : C8.Cal P w K mg base 3 "_law_some" spSome [] := c_Lsome T
  have c_Lwide : C8.Cal P w K mg base 2 "_law_wide" spWide [] := c_Lwide T
  have c_Lnext : C8.Cal P w K mg base 1 "_law_next" spNext [] := c_Lnext T
  have c_Lis_within : C8.Cal P w K mg base 1 "_law_is_within" spWithin [] := c_Lis_within T
  have x_origin_at : CalX P w K mg base 6 "origin_at" (spOAtR K) := x_origin_at T
  obtain ⟨fds, FS⟩ := T.says.def_ 54 rfl
  have FS' : FunD K "_law_said" "_law_said" (defArgs s_Lsaid) (defBody s_Lsaid) (defScope s_Lsaid) [] [] (He.ga K "_law_said") fds := FS
  have bS := FS'.bindsN (ps := ["_law_ask"]) (fun _ _ _ _ _ _ us hl => match us, hl with | [_], _ => rfl)
  have kS := FS'.kp
  obtain ⟨oc, od, dV, kV, doc, pm, an, cds, ct, osl, rfl, lkS, hcS, _, _⟩ := FS'.ex
  refine T.calC 59 50 rfl rfl sc_Lorigins_right ?_ (fun _ _ _ _ _ _ us hl => match us, hl with | [_, _, _], _ => rfl) ?_
  · rintro vs H Q E ⟨S, v, u, k, ks, rfl, _⟩; rfl
  · rintro A outer s H vs Q E hr ⟨S, v, u, k, ks, rfl, hS, hv, hk, hu, hro, htab, h⟩
    refine ⟨_, (pss_cons (ps_asg (pe_tup (pa_cons (C8.pe_mk k_Kind hr (by decide) rfl (pa_cons (pe_ix ix_tup (pv 1) pe_int (fun _ _ => rfl)) (pa_cons (pe_ix ix_tup (pv 1) pe_int (fun _ _ => rfl)) pa_nil))) (pa_cons (C8.pe_c c_Lmade hr (by decide) rfl (pa_cons (pv 2) pa_nil)) pa_nil))) (pg_tup rfl (pgs_cons (pg_name (i := 16) sc_Lorigins_right.nd rfl (Or.inr rfl)) (pgs_cons (pg_name (i := 17) sc_Lorigins_right.nd rfl (Or.inr rfl)) pgs_nil))))
      (pss_cons (ps_asg (pe_tup (pa_cons (C8.pe_c c_results hr (by decide) rfl (pa_cons (pv 16) (pa_cons (pv 17) pa_nil))) (pa_cons (C8.pe_c c_Lrange hr (by decide) rfl (pa_cons (pv 1) pa_nil)) (pa_cons (C8.pe_c c_Lsome hr (by decide) rfl (pa_cons (pv 0) (pa_cons (pv 1) pa_nil))) pa_nil)))) (pg_tup rfl (pgs_cons (pg_name (i := 3) sc_Lorigins_right.nd rfl (Or.inl rfl)) (pgs_cons (pg_tup rfl (pgs_cons (pg_name (i := 4) sc_Lorigins_right.nd rfl (Or.inl rfl)) (pgs_cons (pg_name (i := 5) sc_Lorigins_right.nd rfl (Or.inl rfl)) pgs_nil))) (pgs_cons (pg_name (i := 6) sc_Lorigins_right.nd rfl (Or.inl rfl)) pgs_nil)))))
      (pss_cons (ps_set (i := 15) sc_Lorigins_right.nd rfl (Or.inr rfl) (C8.pe_c c_origin_total hr (by decide) rfl (pa_cons (pv 16) (pa_cons (pv 17) (pa_cons (C8.pe_c c_Lcast hr (by decide) rfl (pa_cons (pv 2) (pa_cons (pe_ix ix_list (pv 6) pe_int (fun _ _ => rfl)) pa_nil))) pa_nil)))))
      (pss_cons (ps_if (pt_cmpR op_nei (pe_op op_mulW (pv 15) (pe_callB (cr_sum rfl) (by rfl) T.n_sum boot_sum_ (pa_cons (pe_lc (own := [("_law_first", 7), ("_law_last", 8)]) (g := gTup K 2 (gCons (gName 7) (gCons (gName 8) gNil))) (tt := tYes) (te := (_)) rfl sc_Lorigins_right.nd (pi_list (pv 3)) (blkOk_by (own := [("_law_first", 7), ("_law_last", 8)]) (N := N_Lorigins_right) (sc := (defScope s_Lorigins_right)) (by decide +kernel)) (fun _ _ _ _ _ => (pg_tup rfl (pgs_cons (pg_name (i := 7) sc_Lorigins_right.nd rfl (Or.inl rfl)) (pgs_cons (pg_name (i := 8) sc_Lorigins_right.nd rfl (Or.inl rfl)) pgs_nil)))) (fun _ _ _ _ _ => pts_nil) (fun _ _ _ _ _ => (pe_op op_add (pe_op op_sub (pv 8) (pv 7)) pe_int))) pa_nil))) (pe_op op_shl1 pe_int (pe_ix ix_tup (pv 1) pe_int (fun _ _ => rfl))) (nomark _)) (pss_one (ps_ret pe_bl)) pss_nil)
      (pss_cons (ps_for PassesOwn.never rfl (pi_list (pv 3)) (pg_tup rfl (pgs_cons (pg_name (i := 7) sc_Lorigins_right.nd rfl (Or.inl rfl)) (pgs_cons (pg_name (i := 8) sc_Lorigins_right.nd rfl (Or.inl rfl)) pgs_nil)))
        (pss_one (ps_for PassesOwn.never rfl (pi_list (pe_lst (pa_cons (pe_tup (pa_cons (pv 7) (pa_cons (pv 15) pa_nil))) (pa_cons (pe_tup (pa_cons (pv 8) (pa_cons (pv 15) pa_nil))) (pa_cons (pe_tup (pa_cons (pe_op op_sub (pv 7) pe_int) (pa_cons pe_int pa_nil))) (pa_cons (pe_tup (pa_cons (pe_op op_add (pv 8) pe_int) (pa_cons pe_int pa_nil))) pa_nil)))))) (pg_tup rfl (pgs_cons (pg_name (i := 18) sc_Lorigins_right.nd rfl (Or.inr rfl)) (pgs_cons (pg_name (i := 9) sc_Lorigins_right.nd rfl (Or.inl rfl)) pgs_nil)))
            (pss_one (ps_if (pt_cmpR op_nei (C8.pe_c c_origin_total hr (by decide) rfl (pa_cons (pv 16) (pa_cons (pv 17) (pa_cons (pv 18) pa_nil)))) (pv 9) (nomark _)) (pss_one (ps_ret pe_bl)) pss_nil)))))
      (pss_cons (ps_set (i := 10) sc_Lorigins_right.nd rfl (Or.inl rfl) (pe_op op_add (pe_op op_shl1 pe_int pe_int) (C8.pe_c c_Lwide hr (by decide) rfl (pa_cons (pv 0) (pa_cons (pe_op op_pow pe_int pe_int) pa_nil)))))
      (pss_cons (ps_for PassesOwn.never rfl (pi_tup (pe_tup (pa_cons (pv 10) (pa_cons (pe_op op_sub pe_int (pv 10)) pa_nil)))) (pg_name (i := 11) sc_Lorigins_right.nd rfl (Or.inl rfl))
        (pss_one (ps_if (PW.pt (pw_or (pt_cmpR op_nei (C8.pe_c c_cast hr (by decide) rfl (pa_cons (pv 17) (pa_cons (pv 11) pa_nil))) (C8.pe_c c_Lcast hr (by decide) rfl (pa_cons (pv 2) (pa_cons (pv 11) pa_nil))) (nomark _)) (pw_or1 (pt_cmpR op_nei (C8.pe_c c_origin_total hr (by decide) rfl (pa_cons (pv 16) (pa_cons (pv 17) (pa_cons (pv 11) pa_nil)))) pe_int (nomark _))))) (pss_one (ps_ret pe_bl)) pss_nil)))
      (pss_cons (ps_for PassesOwn.never rfl (pi_list (pv 6)) (pg_name (i := 11) sc_Lorigins_right.nd rfl (Or.inl rfl))
        (pss_cons (ps_asg (pe_tup (pa_cons (C8.pe_c c_Lcast hr (by decide) rfl (pa_cons (pv 2) (pa_cons (pv 11) pa_nil))) (pa_cons (C8.pe_c c_Lnext hr (by decide) rfl (pa_cons (pv 0) (pa_cons (pe_callB (call_min2 rfl) (by rfl) T.n_min boot_min_ (pa_cons (pv 15) (pa_cons (pe_op op_pow pe_int pe_int) pa_nil))) pa_nil))) pa_nil))) (pg_tup rfl (pgs_cons (pg_name (i := 18) sc_Lorigins_right.nd rfl (Or.inr rfl)) (pgs_cons (pg_name (i := 12) sc_Lorigins_right.nd rfl (Or.inl rfl)) pgs_nil))))
          (pss_cons (ps_if (PW.pt (pw_or (pt_not (pt_val (C8.pe_c c_Lis_within hr (by decide) rfl (pa_cons (pv 3) (pa_cons (pv 18) pa_nil))))) (pw_or1 (pt_cmpR op_nei (C8.pe_c c_origin_total hr (by decide) rfl (pa_cons (pv 16) (pa_cons (pv 17) (pa_cons (pv 18) pa_nil)))) (pv 15) (nomark _))))) (pss_one (ps_ret pe_bl)) pss_nil)
          (pss_cons (ps_par (i := 13) (j := 14) rfl sc_Lorigins_right.nd rfl rfl (by decide) rfl rfl (pa_cons (C8.pe_c c_origin_at hr (by decide) rfl (pa_cons (pv 16) (pa_cons (pv 17) (pa_cons (pv 18) (pa_cons (pv 12) pa_nil))))) (pa_cons (C8.pe_c c_origin_at hr (by decide) rfl (pa_cons (pv 16) (pa_cons (pv 17) (pa_cons (pv 18) (pa_cons (pe_op op_sub (pv 15) pe_int) pa_nil))))) pa_nil)) (by rfl))
          (pss_cons (ps_if (PW.pt (pw_or (pt_not (FwR.pt_chain3 op_le op_le op_le (pv 4) (pv 13) (pv 14) (pv 5))) (pw_or (pt_cmpR op_nei (C8.pe_c c_Lcast hr (by decide) rfl (pa_cons (pv 2) (pa_cons (pv 13) pa_nil))) (pv 18) (nomark _)) (pw_or1 (pt_cmpR op_nei (C8.pe_c c_Lcast hr (by decide) rfl (pa_cons (pv 2) (pa_cons (pv 14) pa_nil))) (pv 18) (nomark _)))))) (pss_one (ps_ret pe_bl)) pss_nil)
          (pss_cons (ps_if (PW.pt (pw_or (PW.pt (pw_and (pt_cmpR op_gt (pv 12) pe_int (nomark _)) (pw_and1 (pt_cmpR op_ge (C8.pe_c c_origin_at hr (by decide) rfl (pa_cons (pv 16) (pa_cons (pv 17) (pa_cons (pv 18) (pa_cons (pe_op op_sub (pv 12) pe_int) pa_nil))))) (pv 13) (nomark _))))) (pw_or1 (PW.pt (pw_and (pt_cmpR op_eqi (pv 12) (pe_op op_sub (pv 15) pe_int) (nomark _)) (pw_and1 (pt_cmpR op_nei (pv 13) (pv 14) (nomark _)))))))) (pss_one (ps_ret pe_bl)) pss_nil)
          (pss_one (ps_if (pt_cmpR (op_neD hr.units) (LamX.pe_lamcall (T := Tt K) (t := tOb K) (k := 6) rfl T.g_law_said kS lkS hcS bS FwL.scSaid rfl (Or.inl rfl) (FwL.said_gives T.said) TB rfl (List.mem_singleton.mpr rfl) (fun p hp _ => by rw [List.mem_singleton.mp hp]; rfl) (hr.mono (by decide)) (LamX.lamS_by (sc := defScope s_Lorigins_right) (by decide +kernel)) rfl (fun _ _ _ _ _ => rfl) (fun A outer s H E f c' hr2 => pe_cx x_origin_at hr2 (by decide) rfl (pa_cons (pv 16) (pa_cons (pv 17) (pa_cons (pv 18) (pa_cons (pv 15) pa_nil)))) (passes_call (E := E) (takes_of rfl rfl rfl rfl) fun _ _ _ _ z => z))) (pe_tup (pa_cons pe_str (pa_cons pe_str pa_nil))) (nomark _)) (pss_one (ps_ret pe_bl)) pss_nil))))))))
      (pss_one (ps_ret pe_bl)))))))))), ?_⟩
    obtain ⟨p, rfl, hp⟩ := hv
    have hoks := hro.2.2
    have h20 := hro.2.1
    have ho := eff_kd hk hro
    have hbw : (effOf (k :: ks)).b ≤ k.w := effOf_b k ks
    refine ⟨_, rfl, p, _, _, _, rfl, rfl, SqT.of hp, rfl, _, rfl, p, _, _, _, rfl, rfl, SqT.of hp, rfl, ?_⟩
    intro x dx hx hd hne
    refine make_kind (k := k) hx hd hne hk fun H1 s1 hx1 => ?_
    refine ⟨_, rfl, u, ks, rfl, rws_mono s1 hu, hoks, by omega, fun pl H2 s2 hpl => ⟨by show 2 ≤ sizeLine; decide, fun t ht => ⟨t, _, rfl, SqT.of upd_same, rfl, _, _, rfl, _, _, rfl, rfl, ?_⟩⟩⟩
    have s3 : Same H2 (upd H2 t (.tup [.ref x, pl])) := same_new ht
    have s13 := (s1.trans s2).trans s3
    have hx3 := ki_mono (s2.trans s3) hx1
    have hpl3 := ks_mono s3 hpl
    generalize upd H2 t (.tup [.ref x, pl]) = H3 at *
    refine ⟨_, rfl, _, rfl, _, pl, k, ks, rfl, hx3, hk, hpl3, hro, fun tl H4 ys s4 hperm hlex htl => ?_⟩
    have s14 := s13.trans s4
    refine ⟨_, rfl, _, k, rfl, ⟨p, rfl, s14 _ _ hp⟩, hk, fun rg H5 s5 hrg => ?_⟩
    have s15 := s14.trans s5
    have hS5 := src_same s15 hS
    refine ⟨_, rfl, _, rfl, S, _, k, rfl, hS5, ⟨p, rfl, s15 _ _ hp⟩, hk, fun tn H6 ns hlen hin sx6 hS6 htn => ?_⟩
    have hrg6 := ref_rg.keep _ _ S _ _ hS5 sx6 hrg
    obtain ⟨q, rfl, hq⟩ := hrg6
    obtain ⟨told, hsz⟩ := told_results ho hperm hlex
    refine ⟨by show 3 ≤ sizeLine; decide, fun t2 ht2 => ⟨t2, _, rfl, SqT.of upd_same, rfl, _, _, rfl, _, _, rfl, ⟨q, _, rfl, SqT.of (same_new ht2 _ _ hq), rfl, _, _, rfl, _, _, rfl, rfl, ?_⟩⟩⟩
    refine ⟨_, _, rfl, rfl, ?_⟩
    have s7 : Same H6 (upd H6 t2 (.tup [tl, .ref q, tn])) := same_new ht2
    have sx7 := (SamX.of (p := S) s15).trans (sx6.trans (SamX.of s7))
    have hx7 := ki_mono s7 (ref_ki.keep _ _ S _ _ hS5 sx6 (ki_mono (s4.trans s5) hx3))
    have hpl7 := ks_mono s7 (ref_ki.ls hS5 sx6 (ks_mono (s4.trans s5) hpl3))
    have hu7 := rws_mono s7 (ref_sh.ls hS5 sx6 (rws_mono s15 hu))
    have htl7 := rs_mono s7 (ref_rg.ls hS5 sx6 (rs_mono s5 htl))
    have htn7 : LsAt IsI (upd H6 t2 (.tup [tl, .ref q, tn])) tn ns := LsAt.mono sta_i.mono _ _ _ _ s7 htn
    have hS7 := src_same s7 hS6
    have tab7 := tabs_same (tabs_sx (tabs_same htab s15) hS5 sx6) s7
    have hp7 : (upd H6 t2 (.tup [tl, .ref q, tn])) p = some (.tup [.int (k.w : Int), .bl k.s]) := s7 _ _ (sx6 _ _ (src_ne_o hS5 (s15 _ _ hp) (fun _ z => by cases z)) (s15 _ _ hp))
    generalize hl : joinR ys = l at htl7 told hsz
    have hll : l.length ≤ 2 := by
      have h1 := joinR_len ys
      have h2 := hperm.length_eq
      simp at h2
      rw [hl] at h1
      omega
    generalize upd H6 t2 (.tup [tl, .ref q, tn]) = H7 at *
    obtain ⟨a, us, rfl, ha, hus⟩ := htl7
    obtain ⟨b, bs, rfl, hb, hbs⟩ := htn7
    have ebs := ints_of hbs
    subst ebs
    -- the rests
    have rest_in_row : ∀ n, Rw.lo k ≤ n → n ≤ Rw.hi k → (effOf (k :: ks)).rest (castL ks n) = some (n % P2 (effOf (k :: ks)).b) := fun n n0 n1 => by
      rw [← cast_in n0 n1, ← fn_cast hk hoks, fn_rest ho]
    obtain ⟨n0, ns', rfl⟩ : ∃ n0 ns', ns = n0 :: ns' := by
      cases ns with
      | nil => cases hlen
      | cons n0 ns' => exact ⟨n0, ns', rfl⟩
    have hn0 := hin n0 (List.mem_cons_self ..)
    refine ⟨_, rfl, _, rfl, _, rfl, _, rfl, b, _, 0, _, rfl, rfl, SqL.of hb, atI_z, u, ks, n0, rfl, hu7, hoks, _, pl, k, ks, _, rfl, hx7, hk, hpl7, hro, fun H8 s8 => ?_⟩
    rw [tot_some (rest_in_row n0 hn0.1 hn0.2)]
    have hMp := many_pos k (effOf (k :: ks))
    have hMle := many_le (e := effOf (k :: ks)) hk
    have hMm := many_mul (k := k) (e := effOf (k :: ks)) hbw
    generalize hM : many k (effOf (k :: ks)) = M at *
    have ha8 := s8 _ _ ha
    have hus8 := sta_rg.same s8 hus
    refine ⟨_, rfl, _, rfl, a, rfl, ⟨_, SqL.of ha8⟩, fun D hD => lc_new (K := K) sta_i (l.map fun p => p.2 - p.1 + 1) (by rw [List.length_map]; exact PySem.Paired.length hus) (by simp; omega) hD (SqL.of ha8) (fun i x H' hi s' Q' c => ?_) (fun cs H9 s9 hd hcb => ?_)⟩
    · obtain ⟨z, hz, q, rfl, hq⟩ := Paired.get hus8 hi
      refine ⟨q, _, rfl, SqT.of (s' _ _ hq), rfl, _, _, rfl, _, _, rfl, rfl, rfl, ?_⟩
      refine ⟨_, rfl, _, rfl, _, _, rfl, rfl, _, _, rfl, rfl, ?_⟩
      exact c _ _ _ (by rw [List.getElem?_map, hz]; rfl) (Same.refl _) rfl
    have s79 := s8.trans s9
    have esz : (l.map fun p => p.2 - p.1 + 1).sum = P2 (effOf (k :: ks)).b := hsz
    refine ⟨D, _, rfl, SqL.of (by rw [hd, ints_of hcb]), _, _, rfl, rfl, ?_, _, rfl, p, _, _, _, rfl, rfl, SqT.of (s79 _ _ hp7), rfl, k.w, rfl, rfl, by have := hk.2; omega, _, _, rfl, rfl, _, rfl, ?_⟩
    · rw [esz]
      exact wide_mul (P2_abs' (n := 128) (by decide) (by have := P2_pos 128; omega) hMle) (P2_abs1 (by have := ho.bw; have := ho.w128; omega)) (by decide) (by decide) (by decide)
    rw [esz, decide_eq_true hMm]
    refine iteF ?_
    -- the ranges' ends
    have ha9 := s79 _ _ ha
    have hus9 := sta_rg.same s79 hus
    have hx9 := ki_mono s79 hx7
    have hpl9 := ks_mono s79 hpl7
    refine ⟨_, rfl, a, rfl, ⟨_, SqL.of ha9⟩, for_list (K := K) (a := a) (xs := us) (fun i σ H' => Same H9 H' ∧ ∃ o7 o8 o9 o18, σ = [some (.ref S), some (.ref p), some u, some (.ref a), some (.int (Rw.lo k)), some (.int (Rw.hi k)), some (.ref b), o7, o8, o9, none, none, none, none, none, some (.int M), some (.ref x), some pl, o18]) ⟨Same.refl _, none, none, none, none, rfl⟩ (fun i σ H' _ z => SqL.of (z.1 _ _ ha9)) ?_ ?_⟩
    · rintro i y σ H10 hi ⟨s10, o7, o8, o9, o18, rfl⟩
      obtain ⟨z, hz, tz, rfl, htz⟩ := Paired.get hus9 hi
      have hzm := List.mem_of_getElem? hz
      have hz12 := told.ne z hzm
      obtain ⟨b1, b2, b3, b4⟩ := told.beside hzm
      have tS : ∀ y, ((effOf (k :: ks)).rest y).isSome = true → tot k (effOf (k :: ks)) y = M := fun y hy => by unfold tot; rw [if_pos hy, hM]
      have tN : ∀ y, ¬ ((effOf (k :: ks)).rest y).isSome = true → tot k (effOf (k :: ks)) y = 0 := fun y hy => by unfold tot; rw [if_neg hy]
      refine ⟨tz, _, rfl, SqT.of (s10 _ _ htz), rfl, _, _, rfl, _, _, rfl, rfl, ?_⟩
      refine ⟨_, rfl, _, rfl, by show 2 ≤ sizeLine; decide, fun t1 h1 => ⟨_, rfl, _, rfl, by show 2 ≤ sizeLine; decide, fun t2 h2 => ⟨_, rfl, _, _, rfl, rfl, by show 2 ≤ sizeLine; decide, fun t3 h3 => ⟨_, rfl, _, _, rfl, rfl, by show 2 ≤ sizeLine; decide, fun t4 h4 => ⟨by show 4 ≤ sizeLine; decide, fun q hq => ?_⟩⟩⟩⟩⟩
      have r1 := same_new (o := .tup [.int z.1, .int M]) h1
      have r2 := same_new (o := .tup [.int z.2, .int M]) h2
      have r3 := same_new (o := .tup [.int (z.1 - 1), .int 0]) h3
      have r4 := same_new (o := .tup [.int (z.2 + 1), .int 0]) h4
      have r5 := same_new (o := .lst [.ref t1, .ref t2, .ref t3, .ref t4]) hq
      have hpairs : Paired (RgAt (upd (upd (upd (upd (upd H10 t1 (.tup [.int z.1, .int M])) t2 (.tup [.int z.2, .int M])) t3 (.tup [.int (z.1 - 1), .int 0])) t4 (.tup [.int (z.2 + 1), .int 0])) q (.lst [.ref t1, .ref t2, .ref t3, .ref t4]))) [.ref t1, .ref t2, .ref t3, .ref t4] [(z.1, M), (z.2, M), (z.1 - 1, 0), (z.2 + 1, 0)] :=
        .cons ⟨t1, rfl, r5 _ _ (r4 _ _ (r3 _ _ (r2 _ _ upd_same)))⟩ (.cons ⟨t2, rfl, r5 _ _ (r4 _ _ (r3 _ _ upd_same))⟩ (.cons ⟨t3, rfl, r5 _ _ (r4 _ _ upd_same)⟩ (.cons ⟨t4, rfl, r5 _ _ upd_same⟩ .nil)))
      have rAll := (((r1.trans r2).trans r3).trans r4).trans r5
      have hqq : (upd (upd (upd (upd (upd H10 t1 (.tup [.int z.1, .int M])) t2 (.tup [.int z.2, .int M])) t3 (.tup [.int (z.1 - 1), .int 0])) t4 (.tup [.int (z.2 + 1), .int 0])) q (.lst [.ref t1, .ref t2, .ref t3, .ref t4])) q = some (.lst [.ref t1, .ref t2, .ref t3, .ref t4]) := upd_same
      generalize upd (upd (upd (upd (upd H10 t1 (.tup [.int z.1, .int M])) t2 (.tup [.int z.2, .int M])) t3 (.tup [.int (z.1 - 1), .int 0])) t4 (.tup [.int (z.2 + 1), .int 0])) q (.lst [.ref t1, .ref t2, .ref t3, .ref t4]) = HQ at *
      refine ⟨q, rfl, ⟨_, SqL.of hqq⟩, for_list (K := K) (a := q) (xs := [.ref t1, .ref t2, .ref t3, .ref t4]) (fun i σ H' => Same HQ H' ∧ ∃ o9 o18, σ = [some (.ref S), some (.ref p), some u, some (.ref a), some (.int (Rw.lo k)), some (.int (Rw.hi k)), some (.ref b), some (.int z.1), some (.int z.2), o9, none, none, none, none, none, some (.int M), some (.ref x), some pl, o18]) ⟨Same.refl _, o9, o18, rfl⟩ (fun i σ H' _ z => SqL.of (z.1 _ _ hqq)) ?_ ?_⟩
      · rintro j y σ H11 hj ⟨s11, o9', o18', rfl⟩
        obtain ⟨w, hw, tw, rfl, htw⟩ := Paired.get hpairs hj
        have hdue : tot k (effOf (k :: ks)) w.1 = w.2 := by
          match j, hw with
          | 0, hw => cases hw; exact tS _ b1
          | 1, hw => cases hw; exact tS _ b2
          | 2, hw => cases hw; exact tN _ b3
          | 3, hw => cases hw; exact tN _ b4
        have sAll := s10.trans (rAll.trans s11)
        refine ⟨tw, _, rfl, SqT.of (s11 _ _ htw), rfl, _, _, rfl, _, _, rfl, rfl, ?_⟩
        refine ⟨_, rfl, _, rfl, _, rfl, _, pl, k, ks, w.1, rfl, ki_mono sAll hx9, hk, ks_mono sAll hpl9, hro, fun H12 s12 => ⟨_, rfl, _, _, rfl, rfl, _, rfl, ?_⟩⟩
        rw [hdue, decide_eq_true rfl]
        exact iteF ⟨s11.trans s12, _, _, rfl⟩
      · rintro σ H11 ⟨s11, o9', o18', rfl⟩
        exact ⟨s10.trans (rAll.trans s11), _, _, _, _, rfl⟩
    rintro σ H10 ⟨s10, o7, o8, o9, o18, rfl⟩
    have s710 := s79.trans s10
    have hS10 := src_same s710 hS7
    refine ⟨3300, rfl, rfl, by decide, _, rfl, _, _, rfl, rfl, ⟨by decide, by decide, by decide⟩, S, _, rfl, hS10, by decide, fun r H11 r0 r1 sx11 hS11 => ⟨_, _, rfl, rfl, ?_⟩⟩
    have hx11 := ref_ki.keep _ _ S _ _ hS10 sx11 (ki_mono s710 hx7)
    have hpl11 := ref_ki.ls hS10 sx11 (ks_mono s710 hpl7)
    have hu11 := ref_sh.ls hS10 sx11 (rws_mono s710 hu7)
    have htl11 : RsAt H11 (.ref a) l := ref_rg.ls hS10 sx11 (rs_mono s710 ⟨a, us, rfl, ha, hus⟩)
    have hb11 := sx11 _ _ (src_ne_l hS10 (s710 _ _ hb) (by rw [List.length_map]; omega)) (s710 _ _ hb)
    have tab11 := tabs_sx (tabs_same tab7 s710) hS10 sx11
    have sx011 := sx7.trans ((SamX.of s710).trans sx11)
    have hG : P2 200 ≤ P2 3300 + r := by
      have := P2_le (show 200 ≤ 3300 by decide)
      omega
    refine ⟨_, rfl, _, rfl, _, _, rfl, rfl, by show 2 ≤ sizeLine; decide, fun t ht => ?_⟩
    have s12 : Same H11 (upd H11 t (.tup [.int (P2 3300 + r), .int (0 - (P2 3300 + r))])) := same_new ht
    refine ⟨t, rfl, ⟨_, SqT.of upd_same⟩, for_tup (K := K) (a := t) (xs := [V.int (P2 3300 + r), V.int (0 - (P2 3300 + r))]) (fun i σ H' => Same (upd H11 t (.tup [.int (P2 3300 + r), .int (0 - (P2 3300 + r))])) H' ∧ ∃ o11, σ = [some (.ref S), some (.ref p), some u, some (.ref a), some (.int (Rw.lo k)), some (.int (Rw.hi k)), some (.ref b), o7, o8, o9, some (.int (P2 3300 + r)), o11, none, none, none, some (.int M), some (.ref x), some pl, o18]) ⟨Same.refl _, none, rfl⟩ (fun i σ H' _ z => SqT.of (z.1 _ _ upd_same)) ?_ ?_⟩
    · rintro i y σ H12 hi ⟨s13, o11, rfl⟩
      have hy : ∃ n, y = .int n ∧ tot k (effOf (k :: ks)) n = 0 := by
        match i, hi with
        | 0, hi => cases hi; exact ⟨_, rfl, tot_none (rest_far ho (.inl hG))⟩
        | 1, hi => cases hi; exact ⟨_, rfl, tot_none (rest_far ho (.inr (by omega)))⟩
      obtain ⟨n, rfl, hn⟩ := hy
      have s1112 := s12.trans s13
      refine ⟨_, rfl, _, rfl, pl, ks, n, rfl, ks_mono s1112 hpl11, hro, fun H13 s14 => ?_⟩
      have s1113 := s1112.trans s14
      refine ⟨_, rfl, _, rfl, u, ks, n, rfl, rws_mono s1113 hu11, hoks, _, _, rfl, rfl, _, rfl, ?_⟩
      rw [decide_eq_true rfl]
      refine iteF ⟨_, rfl, _, rfl, _, rfl, _, pl, k, ks, n, rfl, ki_mono s1113 hx11, hk, ks_mono s1113 hpl11, hro, fun H14 s15 => ⟨_, _, rfl, rfl, _, rfl, ?_⟩⟩
      rw [hn, decide_eq_true rfl]
      exact iteF ⟨(s13.trans s14).trans s15, _, rfl⟩
    rintro σ H12 ⟨s13, o11, rfl⟩
    have s1112 := s12.trans s13
    have hS12 := src_same s1112 hS11
    have hx12 := ki_mono s1112 hx11
    have hpl12 := ks_mono s1112 hpl11
    have hu12 := rws_mono s1112 hu11
    have htl12 := rs_mono s1112 htl11
    have hb12 := s1112 _ _ hb11
    have tab12 := tabs_same tab11 s1112
    have sx012 := sx011.trans (SamX.of s1112)
    have hbS : b ≠ S := src_ne_l hS12 hb12 (by rw [List.length_map]; omega)
    refine ⟨_, rfl, b, rfl, ⟨_, SqL.of hb12⟩, for_list (K := K) (a := b) (xs := (n0 :: ns').map V.int) (fun i σ H' => SamN S H12 H' ∧ SrcAt H' S ∧ LamX.Tabs (Tt K) H' ∧ ∃ o11 o12 o13 o14 o18, σ = [some (.ref S), some (.ref p), some u, some (.ref a), some (.int (Rw.lo k)), some (.int (Rw.hi k)), some (.ref b), o7, o8, o9, some (.int (P2 3300 + r)), o11, o12, o13, o14, some (.int M), some (.ref x), some pl, o18]) ⟨SamN.refl _ _, hS12, tab12, o11, none, none, none, o18, rfl⟩ (fun i σ H' _ z => SqL.of (z.1 _ _ hbS (fun _ y => by cases y) hb12)) ?_ ?_⟩
    · rintro i y σ H13 hi ⟨sN, hS13, tab13, o11', o12, o13, o14, o18', rfl⟩
      obtain ⟨n, hnm, rfl⟩ := List.mem_map.mp (List.mem_of_getElem? hi)
      obtain ⟨nl, nh⟩ := hin n hnm
      have hrest := rest_in_row n nl nh
      have hx13 := refN_ki.keep _ _ S _ _ hS12 sN hx12
      have hpl13 := refN_ki.ls hS12 sN hpl12
      have hu13 := refN_sh.ls hS12 sN hu12
      have htl13 := refN_rg.ls hS12 sN htl12
      have e9 : (10 : Int) ^ (9 : Int).toNat = 1000000000 := by decide
      refine ⟨_, rfl, _, rfl, u, ks, n, rfl, hu13, hoks, _, rfl, _, rfl, _, _, rfl, rfl, ⟨by decide, by decide, by decide⟩, _, _, rfl, S, _, rfl, hS13, ?_, ?_, fun at_ H14 at0 at1 sx14 hS14 => ?_⟩
      · rw [e9]; split <;> omega
      · rw [e9]; split <;> omega
      have atM : at_ < M := by
        rw [e9] at at1
        split at at1 <;> omega
      refine ⟨by show 2 ≤ sizeLine; decide, fun t ht => ⟨t, _, rfl, SqT.of upd_same, rfl, _, _, rfl, _, _, rfl, rfl, ?_⟩⟩
      have s15 : Same H14 (upd H14 t (.tup [.int (castL ks n), .int at_])) := same_new ht
      have hx15 := ki_mono s15 (ref_ki.keep _ _ S _ _ hS13 sx14 hx13)
      have hpl15 := ks_mono s15 (ref_ki.ls hS13 sx14 hpl13)
      have hu15 := rws_mono s15 (ref_sh.ls hS13 sx14 hu13)
      have htl15 := rs_mono s15 (ref_rg.ls hS13 sx14 htl13)
      have tab15 := tabs_same (tabs_sx tab13 hS13 sx14) s15
      have hS15 := src_same s15 hS14
      have sN15 := sN.trans (SamN.of (sx14.trans (SamX.of s15)))
      generalize upd H14 t (.tup [.int (castL ks n), .int at_]) = H15 at *
      have hin_l : inRs l (castL ks n) = true := inRs_iff.mpr ((told.iff _).mp (by rw [hrest]; rfl))
      refine ⟨_, rfl, _, rfl, _, l, castL ks n, rfl, htl15, by omega, fun H16 s16 => ⟨_, rfl, ?_⟩⟩
      rw [hin_l]
      refine iteF ⟨_, rfl, _, rfl, _, rfl, _, pl, k, ks, castL ks n, rfl, ki_mono s16 hx15, hk, ks_mono s16 hpl15, hro, fun H17 s17 => ⟨_, rfl, _, _, rfl, rfl, _, rfl, ?_⟩⟩
      have etot : tot k (effOf (k :: ks)) (castL ks n) = M := by rw [tot_some hrest, hM]
      rw [etot, decide_eq_true rfl]
      refine iteF ?_
      have s1517 := s16.trans s17
      obtain ⟨p1, p2, p3⟩ := origin_ok ho hbw hrest at0 (by rw [hM]; exact atM)
      obtain ⟨q1, q2, q3⟩ := origin_ok ho hbw hrest (j := M - 1) (by omega) (by rw [hM]; omega)
      refine ⟨_, rfl, _, rfl, _, rfl, _, rfl, _, pl, k, ks, castL ks n, at_, _, rfl, ki_mono s1517 hx15, hk, ks_mono s1517 hpl15, hro, hrest, at0, by rw [hM]; exact atM, fun H18 s18 => ?_⟩
      have s1518 := s1517.trans s18
      refine ⟨_, rfl, _, rfl, _, rfl, _, rfl, _, _, rfl, rfl, _, pl, k, ks, castL ks n, M - 1, _, rfl, ki_mono s1518 hx15, hk, ks_mono s1518 hpl15, hro, hrest, by omega, by rw [hM]; omega, fun H19 s19 => ⟨_, _, rfl, ?_⟩⟩
      have s1519 := s1518.trans s19
      have c1 : castL ks (origin k (effOf (k :: ks)) (n % P2 (effOf (k :: ks)).b) at_) = castL ks n := by rw [← cast_in p1 p2, ← fn_cast hk hoks, p3]
      have c2 : castL ks (origin k (effOf (k :: ks)) (n % P2 (effOf (k :: ks)).b) (M - 1)) = castL ks n := by rw [← cast_in q1 q2, ← fn_cast hk hoks, q3]
      have c3 : origin k (effOf (k :: ks)) (n % P2 (effOf (k :: ks)).b) at_ ≤ origin k (effOf (k :: ks)) (n % P2 (effOf (k :: ks)).b) (M - 1) := by
        by_cases z : at_ < M - 1
        · exact Int.le_of_lt (origin_lt z)
        · rw [show at_ = M - 1 by omega]; exact Int.le_refl _
      have c4 : at_ = M - 1 → origin k (effOf (k :: ks)) (n % P2 (effOf (k :: ks)).b) at_ = origin k (effOf (k :: ks)) (n % P2 (effOf (k :: ks)).b) (M - 1) := fun z => by rw [z]
      have c5 : ¬ origin k (effOf (k :: ks)) (n % P2 (effOf (k :: ks)).b) (at_ - 1) ≥ origin k (effOf (k :: ks)) (n % P2 (effOf (k :: ks)).b) at_ := by
        have := origin_lt (k := k) (e := effOf (k :: ks)) (r := n % P2 (effOf (k :: ks)).b) (i := at_ - 1) (j := at_) (by omega)
        omega
      generalize hO1 : origin k (effOf (k :: ks)) (n % P2 (effOf (k :: ks)).b) at_ = O1 at *
      generalize origin k (effOf (k :: ks)) (n % P2 (effOf (k :: ks)).b) (M - 1) = O2 at *
      refine ⟨_, rfl, _, rfl, _, _, rfl, rfl, _, rfl, ?_⟩
      rw [decide_eq_true p1]
      refine iteT ⟨_, rfl, _, _, rfl, rfl, _, rfl, ?_⟩
      rw [decide_eq_true c3]
      refine iteT ⟨_, rfl, _, _, rfl, rfl, _, rfl, ?_⟩
      rw [decide_eq_true q2]
      refine iteF ⟨_, rfl, _, rfl, u, ks, O1, rfl, rws_mono s1519 hu15, hoks, _, rfl, _, _, rfl, rfl, _, rfl, ?_⟩
      rw [c1, decide_eq_true rfl]
      refine iteF ⟨_, rfl, _, rfl, u, ks, O2, rfl, rws_mono s1519 hu15, hoks, _, rfl, _, _, rfl, rfl, _, rfl, ?_⟩
      rw [c2, decide_eq_true rfl]
      refine iteF ?_
      refine ⟨_, rfl, _, _, rfl, rfl, _, rfl, ?_⟩
      have A1 : ∀ F : Bool → Hp → Prop, (∀ H', Same H19 H' → F false H') → if decide (at_ > 0) = true then tTest (tOp (rI0 fun i j => V.bl (decide (i ≥ j))) (tCall (spOAt K) [] C8.E0 (tCons (tVar 16) (tCons (tVar 17) (tCons (tVar 18) (tCons (tOp (rI0 fun i j => V.int (i - j)) (tVar 12) (tC (.int 1))) tNil))))) (tVar 13))
          [some (.ref S), some (.ref p), some u, some (.ref a), some (.int (Rw.lo k)), some (.int (Rw.hi k)), some (.ref b), o7, o8, o9, some (.int (P2 3300 + r)), some (.int n), some (.int at_), some (.int O1), some (.int O2), some (.int M), some (.ref x), some pl, some (.int (castL ks n))] H19 F else F false H19 := by
        intro F hF
        by_cases c : at_ > 0
        · rw [decide_eq_true c]
          refine iteT ⟨_, rfl, _, rfl, _, rfl, _, rfl, _, _, rfl, rfl, _, pl, k, ks, castL ks n, at_ - 1, _, rfl, ki_mono s1519 hx15, hk, ks_mono s1519 hpl15, hro, hrest, by omega, by rw [hM]; omega, fun H20 s20 => ⟨_, rfl, _, _, rfl, rfl, _, rfl, ?_⟩⟩
          rw [decide_eq_false c5]
          exact hF _ s20
        · rw [decide_eq_false c]
          exact iteF (hF _ (Same.refl _))
      refine A1 _ fun H20 s20 => iteF ?_
      have A2 : ∀ F : Bool → Hp → Prop, F false H20 → if decide (at_ = M - 1) = true then tTest (tOp (rI0 fun i j => V.bl (!decide (i = j))) (tVar 13) (tVar 14))
          [some (.ref S), some (.ref p), some u, some (.ref a), some (.int (Rw.lo k)), some (.int (Rw.hi k)), some (.ref b), o7, o8, o9, some (.int (P2 3300 + r)), some (.int n), some (.int at_), some (.int O1), some (.int O2), some (.int M), some (.ref x), some pl, some (.int (castL ks n))] H20 F else F false H20 := by
        intro F hF
        by_cases c : at_ = M - 1
        · rw [decide_eq_true c]
          refine iteT ⟨_, rfl, _, rfl, _, _, rfl, rfl, _, rfl, ?_⟩
          rw [decide_eq_true (c4 c)]
          exact hF
        · rw [decide_eq_false c]
          exact iteF hF
      refine ⟨_, rfl, _, rfl, _, _, rfl, rfl, _, _, rfl, rfl, _, rfl, ?_⟩
      refine A2 _ (iteF ?_)
      have s1520 := s1519.trans s20
      have tab20 := tabs_same tab15 s1520
      have hS20 := src_same s1520 hS15
      refine ⟨tab20, fun H21 e21 tab21 => ?_⟩
      have hx21 := refN_ki.keep _ _ S _ _ hS20 (SamN.ofN e21) (ki_mono s1520 hx15)
      have hpl21 := refN_ki.ls hS20 (SamN.ofN e21) (ks_mono s1520 hpl15)
      have hS21 := src_N e21 hS20
      refine ⟨_, rfl, _, rfl, _, rfl, _, rfl, _, pl, k, ks, castL ks n, M, rfl, hx21, hk, hpl21, hro, by rw [etot]; exact Int.le_refl _, fun dd H22 s22 hdd => ⟨rfl, dd, rfl, hdd, fun H23 pp e23 hpp => ?_⟩⟩
      have s2123 : Same H21 H23 := fun b o e => e23 b o (s22 b o e)
      refine ⟨by show 2 ≤ sizeLine; decide, fun tt htt => ?_⟩
      have s2324 : Same H23 (upd H23 tt (.tup [.str "bound", .str "j"])) := same_new htt
      refine ⟨.tuple [.str "bound", .str "j"], .tuple [.str "bound", .str "j"], .tup (SqT.of (s2324 _ _ hpp)) (.cons (.str _) (.cons (.str _) .nil)), .tup (SqT.of upd_same) (.cons (.str _) (.cons (.str _) .nil)), by decide +kernel, by decide +kernel, _, rfl, ?_⟩
      rw [show PyData.eqv (.tuple [.str "bound", .str "j"]) (.tuple [.str "bound", .str "j"]) = true by decide +kernel]
      refine iteF ⟨?_, src_same (s2123.trans s2324) hS21, tabs_same tab21 (s2123.trans s2324), _, _, _, _, _, rfl⟩
      exact (sN15.trans (SamN.of (SamX.of s1520))).trans ((SamN.ofN e21).trans (SamN.of (SamX.of (s2123.trans s2324))))
    · rintro σ H13 ⟨sN, hS13, tab13, o11', o12, o13, o14, o18', rfl⟩
      exact h _ ((SamN.of sx012).trans sN) hS13 tab13
end
end Fw



/-! The law. -/
namespace Fw
open PySem PySem.Spec PyProof.Rows L2 Rw
theorem cut_to1 (xs : List V) (h : 1 ≤ xs.length) : cutV xs none (some 1) = xs.take 1 := by
  have e1 : HT.sIx xs.length 0 none = 0 := by unfold HT.sIx; simp
  have e2 : HT.sIx xs.length xs.length (some 1) = 1 := by unfold HT.sIx; simp; omega
  unfold cutV
  rw [e1, e2]
  simp
theorem cut_mem {xs : List V} {lo hi : Option Int} : (cutV xs lo hi).length ≤ xs.length ∧ ∀ x ∈ cutV xs lo hi, x ∈ xs := by
  unfold cutV
  refine ⟨?_, fun x hx => ?_⟩
  · simp only [List.length_take, List.length_drop]
    omega
  · exact List.mem_of_mem_drop (List.mem_of_mem_take hx)
section
variable {P : Program} {w : World} {K : PySem.W.Frag} {mg : Str → Option Value} {base : Heap}
def spLaw (K : PySem.W.Frag) : Sp := fun vs H Q _ => ∃ (a : Addr) (ns : List Int), vs = [.ref a] ∧ SqL K H a (ns.map V.int) ∧ ns.length ≤ 100 ∧ LamX.Tabs (Tt K) H ∧ ∀ H', Q (.bl true) H'
theorem extN_trans {S : Addr} {H0 H H1 H2 : Hp} (e : LamX.ExtN H0 H) (hS : H S = none) (s : Same H H1) (n : SamN S H1 H2) : LamX.ExtN H0 H2 := fun a o h t => by
  have h1 := e a o h t
  exact n a o (ne_of_none h1 hS) t (s a o h1)
theorem row18 {ks : List Kd} (h1 : 1 ≤ ks.length) (h2 : ks.length ≤ 18) (h : ∀ k ∈ ks, k.Ok) : RowOk19 ks := ⟨h1, by omega, h⟩
abbrev N_law : List Str := ["_law_script", "_law_cell", "_law_source", "_law_turn", "_law_shape_here", "_law_rows_here", "_law_other"]
theorem sc_law : FnScope N_law ["_law_script"] (defScope s_law) := ⟨rfl, rfl, rfl, by decide +kernel, rfl, by decide +kernel, by decide +kernel⟩
theorem f_law (T : Tx K mg) (TB : LamX.TabB base mg (cTo K).1 (cTo K).2) {fd : FuncData} (F : FunD K "law" "law" (defArgs s_law) (defBody s_law) (defScope s_law) [] [] (He.ga K "law") fd) : FnOk P w K mg base C8.CX0 10 (He.ga K "law") fd ["_law_script"] (spLaw K) := by
  have c_Lcell_at : C8.Cal P w K mg base 1 "_law_cell_at" (spCellAt K) [] := c_Lcell_at T
  have c_Lsource_of : C8.Cal P w K mg base 1 "_law_source_of" spSrcOf [] := c_Lsource_of T
  have c_Lshape : C8.Cal P w K mg base 2 "_law_shape" spShape [] := c_Lshape T
  have c_Lrows : C8.Cal P w K mg base 3 "_law_rows" spRows [] := c_Lrows T
  have c_Lone : C8.Cal P w K mg base 2 "_law_one" (spOne K) [] := c_Lone T
  have c_Lkept_right : C8.Cal P w K mg base 7 "_law_kept_right" spLaw3 [] := c_Lkept_right T
  have c_Lorigins_right : C8.Cal P w K mg base 9 "_law_origins_right" (spOrg K) [] := c_Lorigins_right T TB
  have c_Lapart_right : C8.Cal P w K mg base 7 "_law_apart_right" spLaw4 [] := c_Lapart_right T
  have c_Lshort_right : C8.Cal P w K mg base 7 "_law_short_right" spLaw3' [] := c_Lshort_right T
  refine F.ok sc_law (fun vs H Q E h => ?_) (fun cdv A outer s H vs Q E hr h => ?_)
  · obtain ⟨a, ns, rfl, _⟩ := h; rfl
  · obtain ⟨a, ns, rfl, hq, hlen, htab, h⟩ := h
    have step : ∃ t, PSs (cxOf C8.CX0 P w K mg base N_law "law" (defScope s_law) (He.ga K "law") cdv A outer s H E).nox (defBody s_law) t ∧ t { nx := fun _ H' => Q .non H', rt := Q } (start N_law [.ref a]) H := by
      refine ⟨_, (pss_cons (ps_for PassesOwn.never rfl (pi_list (pe_op op_cat (pe_lst (pa_cons (C8.pe_c c_Lcell_at hr (by decide) rfl (pa_cons (pv 0) (pa_cons pe_int pa_nil))) pa_nil)) (pe_slice sl_list (pv 0) (po_some pe_int) (po_some pe_int)))) (pg_name (i := 1) sc_law.nd rfl (Or.inl rfl))
        (pss_cons (ps_set (i := 2) sc_law.nd rfl (Or.inl rfl) (C8.pe_c c_Lsource_of hr (by decide) rfl (pa_cons (pv 1) pa_nil)))
          (pss_one (ps_for PassesOwn.never rfl (pi_range1 rfl T.n_range (pa_cons pe_int pa_nil)) (pg_name (i := 3) sc_law.nd rfl (Or.inl rfl))
            (pss_cons (ps_par (i := 4) (j := 5) rfl sc_law.nd rfl rfl (by decide) rfl rfl (pa_cons (C8.pe_c c_Lshape hr (by decide) rfl (pa_cons (pv 2) (pa_cons pe_int pa_nil))) (pa_cons (C8.pe_c c_Lrows hr (by decide) rfl (pa_cons (pv 2) pa_nil)) pa_nil)) (by rfl))
              (pss_cons (ps_set (i := 6) sc_law.nd rfl (Or.inl rfl) (C8.pe_c c_Lone hr (by decide) rfl (pa_cons (pv 2) (pa_cons (pe_lst (pa_cons (C8.pe_c c_Lrows hr (by decide) rfl (pa_cons (pv 2) pa_nil)) (pa_cons (pe_slice sl_list (pv 5) po_none (po_some pe_int)) (pa_cons (pe_revL (pv 5)) (pa_cons (pe_op op_cat (pv 5) (pe_lst (pa_cons (C8.pe_c c_Lshape hr (by decide) rfl (pa_cons (pv 2) (pa_cons pe_int pa_nil))) pa_nil))) pa_nil))))) pa_nil))))
              (pss_cons (ps_if (PW.pt (pw_or (pt_not (pt_val (C8.pe_c c_Lkept_right hr (by decide) rfl (pa_cons (pv 2) (pa_cons (pv 4) (pa_cons (pv 5) pa_nil)))))) (pw_or1 (pt_not (pt_val (C8.pe_c c_Lorigins_right hr (by decide) rfl (pa_cons (pv 2) (pa_cons (pv 4) (pa_cons (pv 5) pa_nil))))))))) (pss_one (ps_ret pe_bl)) pss_nil)
              (pss_one (ps_if (PW.pt (pw_or (pt_not (pt_val (C8.pe_c c_Lapart_right hr (by decide) rfl (pa_cons (pv 2) (pa_cons (pv 4) (pa_cons (pv 5) (pa_cons (pv 6) pa_nil))))))) (pw_or1 (pt_not (pt_val (C8.pe_c c_Lshort_right hr (by decide) rfl (pa_cons (pv 2) (pa_cons (pv 4) (pa_cons (pv 5) pa_nil))))))))) (pss_one (ps_ret pe_bl)) pss_nil)))))))))
      (pss_one (ps_ret pe_bl))), ?_⟩
      refine ⟨_, rfl, a, ns, 0, rfl, hq, Int.le_refl _, fun c0 => ⟨by show 1 ≤ sizeLine; decide, fun l1 h1 => ?_⟩⟩
      have s1 : Same H (upd H l1 (.lst [.int c0])) := same_new h1
      refine ⟨_, rfl, 1, rfl, 4, rfl, a, _, rfl, s1.seq hq, fun l2 h2 => ?_⟩
      have s2 := same_newer (o := .lst (cutV (ns.map V.int) (some 1) (some 4))) s1 h2
      obtain ⟨cl, cm⟩ := cut_mem (xs := ns.map V.int) (lo := some 1) (hi := some 4)
      rw [List.length_map] at cl
      refine ⟨l1, l2, _, _, rfl, rfl, same_new h2 _ _ upd_same, upd_same, small' (by simp only [List.length_cons, List.length_nil]; omega), fun q hq' => ?_⟩
      have s3 := same_newer (o := .lst ([.int c0] ++ cutV (ns.map V.int) (some 1) (some 4))) s2 hq'
      have hints : ∀ x ∈ [V.int c0] ++ cutV (ns.map V.int) (some 1) (some 4), ∃ n, x = .int n := fun x hx => by
        rcases List.mem_append.mp hx with z | z
        · simp at z
          exact ⟨c0, z⟩
        · obtain ⟨n, _, rfl⟩ := List.mem_map.mp (cm x z)
          exact ⟨n, rfl⟩
      have tab3 := tabs_same htab s3
      have hqq : (upd (upd (upd H l1 (.lst [.int c0])) l2 (.lst (cutV (ns.map V.int) (some 1) (some 4)))) q (.lst ([.int c0] ++ cutV (ns.map V.int) (some 1) (some 4)))) q = some (.lst ([.int c0] ++ cutV (ns.map V.int) (some 1) (some 4))) := upd_same
      generalize hxs : [V.int c0] ++ cutV (ns.map V.int) (some 1) (some 4) = xs at *
      generalize upd (upd (upd H l1 (.lst [.int c0])) l2 (.lst (cutV (ns.map V.int) (some 1) (some 4)))) q (.lst xs) = HQ at *
      refine ⟨q, rfl, ⟨_, SqL.of hqq⟩, for_list (K := K) (a := q) (xs := xs) (fun i σ H' => LamX.ExtN HQ H' ∧ LamX.Tabs (Tt K) H' ∧ ∃ o1 o2 o3 o4 o5 o6, σ = [some (.ref a), o1, o2, o3, o4, o5, o6]) ⟨LamX.ExtN.refl _, tab3, none, none, none, none, none, none, rfl⟩ (fun i σ H' _ z => SqL.of (z.1 _ _ hqq (fun _ y => by cases y))) ?_ ?_⟩
      · rintro i x σ H4 hi ⟨e4, tab4, o1, o2, o3, o4, o5, o6, rfl⟩
        obtain ⟨n, rfl⟩ := hints x (List.mem_of_getElem? hi)
        refine ⟨_, rfl, n, rfl, fun S hSn H5 s5 hS5 => ?_⟩
        have tab5 := tabs_same tab4 s5
        refine ⟨3, rfl, by decide, by decide, for_it (walk_range (lo := 0) (n := 3)) (fun j σ H' => SamN S H5 H' ∧ SrcAt H' S ∧ LamX.Tabs (Tt K) H' ∧ ∃ o3 o4 o5 o6, σ = [some (.ref a), some (.int n), some (.ref S), o3, o4, o5, o6]) ⟨SamN.refl _ _, hS5, tab5, o3, o4, o5, o6, rfl⟩ (fun _ _ _ _ _ => trivial) ?_ ?_⟩
        · rintro j y σ H7 H6 hj ⟨sN6, hS6, tab6, o3, o4, o5, o6, rfl⟩ ⟨rfl, rfl⟩
          refine ⟨_, rfl, S, _, rfl, hS6, by decide, by decide, fun sv H7 k hk sx7 hS7 hsv => ?_⟩
          refine ⟨_, rfl, S, rfl, hS7, fun rv H8 ks k1 k18 hks sx8 hS8 hrv => ⟨_, _, rfl, ?_⟩⟩
          have hsv8 := ref_sh.keep _ _ S _ _ hS7 sx8 hsv
          have sx68 := sx7.trans sx8
          have r19 := row18 k1 k18 hks
          -- the other rows
          refine ⟨_, rfl, _, rfl, S, rfl, hS8, fun r1 H9 js j1 j18 hjs sx9 hS9 hr1 => ?_⟩
          have hrv9 := ref_sh.ls hS8 sx9 hrv
          obtain ⟨b, us, rfl, hb, hus⟩ := hrv9
          have hlu := PySem.Paired.length hus
          refine ⟨_, rfl, 1, rfl, b, _, rfl, SqL.of hb, fun p2 hp2 => ?_⟩
          rw [cut_to1 us (by omega)]
          have s10 : Same H9 (upd H9 p2 (.lst (us.take 1))) := same_new hp2
          refine ⟨_, rfl, b, _, rfl, SqL.of (s10 _ _ hb), fun p3 hp3 => ?_⟩
          have s11 := s10.trans (same_new (o := .lst us.reverse) hp3)
          have hS11 := src_same s11 hS9
          refine ⟨_, rfl, _, rfl, S, _, rfl, hS11, by decide, by decide, fun kv H12 k2 hk2 sx12 hS12 hkv => ⟨by show 1 ≤ sizeLine; decide, fun l6 hl6 => ?_⟩⟩
          have s13 : Same H12 (upd H12 l6 (.lst [kv])) := same_new hl6
          have hb11 := s11 _ _ hb
          have hrb11 : RwsAt (upd (upd H9 p2 (.lst (us.take 1))) p3 (.lst us.reverse)) (.ref b) ks := ⟨b, us, rfl, hb11, sta_sh.same s11 hus⟩
          have hrb12 := ref_sh.ls hS11 sx12 hrb11
          obtain ⟨b', us', eb, hb12, hus12⟩ := hrb12
          cases eb
          have hlu' := PySem.Paired.length hus12
          refine ⟨b, l6, _, _, rfl, rfl, s13 _ _ hb12, upd_same, small' (by simp only [List.length_cons, List.length_nil]; omega), fun p4 hp4 => ⟨by show 4 ≤ sizeLine; decide, fun m hm => ?_⟩⟩
          have s14 := s13.trans (same_new (o := .lst (us' ++ [kv])) hp4)
          have s15 := s14.trans (same_new (o := .lst [r1, .ref p2, .ref p3, .ref p4]) hm)
          have hS15 := src_same s15 hS12
          have w1 : RwsAt (upd (upd (upd H12 l6 (.lst [kv])) p4 (.lst (us' ++ [kv]))) m (.lst [r1, .ref p2, .ref p3, .ref p4])) r1 js := rws_mono s15 (ref_sh.ls hS11 sx12 (rws_mono s11 hr1))
          have w2 : RwsAt (upd (upd (upd H12 l6 (.lst [kv])) p4 (.lst (us' ++ [kv]))) m (.lst [r1, .ref p2, .ref p3, .ref p4])) (.ref p2) (ks.take 1) := rws_mono s15 (ref_sh.ls hS11 sx12 (rws_mono (same_new hp3) ⟨p2, _, rfl, upd_same, sta_sh.same s10 (Paired.take 1 hus)⟩))
          have w3 : RwsAt (upd (upd (upd H12 l6 (.lst [kv])) p4 (.lst (us' ++ [kv]))) m (.lst [r1, .ref p2, .ref p3, .ref p4])) (.ref p3) ks.reverse := rws_mono s15 (ref_sh.ls hS11 sx12 ⟨p3, _, rfl, upd_same, sta_sh.same s11 (Paired.rev hus)⟩)
          have w4 : RwsAt (upd (upd (upd H12 l6 (.lst [kv])) p4 (.lst (us' ++ [kv]))) m (.lst [r1, .ref p2, .ref p3, .ref p4])) (.ref p4) (ks ++ [k2]) := rws_mono (same_new hm) ⟨p4, _, rfl, upd_same, sta_sh.same s14 (Paired.app hus12 (.cons hkv .nil))⟩
          have hrow15 := rws_mono s15 ⟨b, us', rfl, hb12, hus12⟩
          have hsv15 := sh_mono s15 (ref_sh.keep _ _ S _ _ hS11 sx12 (sh_mono s11 (ref_sh.keep _ _ S _ _ hS8 sx9 hsv8)))
          have sx615 : SamX S H6 (upd (upd (upd H12 l6 (.lst [kv])) p4 (.lst (us' ++ [kv]))) m (.lst [r1, .ref p2, .ref p3, .ref p4])) := ((sx68.trans sx9).trans (SamX.of s11)).trans (sx12.trans (SamX.of s15))
          refine ⟨S, m, _, rfl, hS15, upd_same, src_fresh (src_same s14 hS12) hm, by show 1 ≤ 4; decide, by show 4 ≤ 1000; decide, fun ov H16 hov sx16 hS16 => ?_⟩
          have hother : ∃ os, RwsAt (upd (upd (upd H12 l6 (.lst [kv])) p4 (.lst (us' ++ [kv]))) m (.lst [r1, .ref p2, .ref p3, .ref p4])) ov os ∧ RowOk19 os := by
            simp only [List.mem_cons, List.not_mem_nil, or_false] at hov
            rcases hov with rfl | rfl | rfl | rfl
            · exact ⟨js, w1, row18 j1 j18 hjs⟩
            · exact ⟨_, w2, by rw [List.length_take]; omega, by rw [List.length_take]; omega, fun z hz => hks z (List.mem_of_mem_take hz)⟩
            · exact ⟨_, w3, by rw [List.length_reverse]; omega, by rw [List.length_reverse]; omega, fun z hz => hks z (List.mem_reverse.mp hz)⟩
            · refine ⟨_, w4, by rw [List.length_append]; omega, by rw [List.length_append]; show ks.length + 1 ≤ 19; omega, fun z hz => ?_⟩
              rcases List.mem_append.mp hz with g | g
              · exact hks z g
              · simp at g
                rw [g]
                exact hk2
          obtain ⟨os, hos, ros⟩ := hother
          have hos16 := ref_sh.ls hS15 sx16 hos
          have hrow16 := ref_sh.ls hS15 sx16 hrow15
          have hsv16 := ref_sh.keep _ _ S _ _ hS15 sx16 hsv15
          have sx616 := sx615.trans sx16
          have tab16 := tabs_sx tab6 hS6 sx616
          refine ⟨_, rfl, _, rfl, _, rfl, S, _, _, k, ks, rfl, hS16, hsv16, hk, hrow16, r19.ok, fun H17 sx17 hS17 => ⟨_, rfl, iteF ?_⟩⟩
          have hrow17 := ref_sh.ls hS16 sx17 hrow16
          have hsv17 := ref_sh.keep _ _ S _ _ hS16 sx17 hsv16
          have hos17 := ref_sh.ls hS16 sx17 hos16
          have tab17 := tabs_sx tab16 hS16 sx17
          refine ⟨_, rfl, _, rfl, _, rfl, S, _, _, k, ks, rfl, hS17, hsv17, hk, hrow17, r19.ok, tab17, fun H18 sN18 hS18 tab18 => ⟨_, rfl, iteF ?_⟩⟩
          have hrow18 := refN_sh.ls hS17 sN18 hrow17
          have hsv18 := refN_sh.keep _ _ S _ _ hS17 sN18 hsv17
          have hos18 := refN_sh.ls hS17 sN18 hos17
          refine ⟨_, rfl, _, rfl, _, rfl, _, rfl, S, _, _, _, k, ks, os, rfl, hS18, hsv18, hk, hrow18, r19, hos18, ros, fun H19 sx19 hS19 => ⟨_, rfl, iteF ?_⟩⟩
          have hrow19 := ref_sh.ls hS18 sx19 hrow18
          have hsv19 := ref_sh.keep _ _ S _ _ hS18 sx19 hsv18
          have tab19 := tabs_sx tab18 hS18 sx19
          refine ⟨_, rfl, _, rfl, _, rfl, S, _, _, k, ks, rfl, hS19, hsv19, hk, hrow19, r19, fun H20 sx20 hS20 => ⟨_, rfl, iteF ?_⟩⟩
          refine ⟨?_, hS20, tabs_sx tab19 hS19 sx20, _, _, _, _, rfl⟩
          exact ((sN6.trans (SamN.of (sx616.trans sx17))).trans sN18).trans (SamN.of (sx19.trans sx20))
        · rintro σ H6 ⟨sN6, hS6, tab6, o3, o4, o5, o6, rfl⟩
          exact ⟨extN_trans e4 hSn s5 sN6, tab6, _, _, _, _, _, _, rfl⟩
      · rintro σ H4 ⟨e4, tab4, o1, o2, o3, o4, o5, o6, rfl⟩
        exact h H4
    obtain ⟨t, ht, hq2⟩ := step
    exact ⟨t, PSs.nox ht, hq2⟩
end
end Fw



/-! The end. -/
namespace Fw
open PySem PySem.Spec PyProof.Rows L2 Rw
theorem tabs_nil {K : PySem.W.Frag} {H : Hp} (h : H (cTo K).2 = some (.tbl #[])) : LamX.Tabs (Tt K) H := fun p hp => by
  rw [List.mem_singleton.mp hp]
  exact LamX.TabS.nil h
theorem law_at {w : World} {K : PySem.W.Frag} {mg : Str → Option Value} {f : Addr} {h : Heap} (KX : K.In h) (c : Told_ fa fn ex tf h K) (G : h.Ns mainGlobals mg) (hfa : mg ("law" : Str) = some (.ref f)) :
    LamX.LawAtS PySem.Challenge.rw_farwrap_k67_whole_far_rows_of_casts w K C8.CX0 10 63 "_law_script" mg f h := by
  have T : Tx K mg := ⟨c.says, ⟨h, KX, G⟩, c.ex⟩
  have hm : ((("_law_origins_right" : Str), (none : Option Str)) : He.Defn) ∈ tf := List.mem_singleton.mpr rfl
  obtain ⟨fd, F⟩ := T.says.def_ 63 rfl
  have F' : FunD K "law" "law" (defArgs s_law) (defBody s_law) (defScope s_law) [] [] (He.ga K "law") fd := F
  have ef : f = He.ga K "law" := by
    have := hfa.symm.trans (T.glo 54 rfl)
    cases this
    rfl
  subst ef
  have b := FunD.bindsA (ps := ["_law_script"]) F' fun _ _ _ _ _ _ us hl => match us, hl with | [_], _ => rfl
  refine ⟨fd, [cTo K], spLaw K, fun p hp => ?_, fun p hp => ?_, fun p hp => ?_, fun s v => b s [v] rfl, fun H a ns hl _ ht hS => ⟨a, ns, rfl, hS, Nat.le_trans hl (by decide), tabs_nil (ht _ (List.mem_singleton.mpr rfl)), fun _ => rfl⟩, fun base X Y TB => f_law ⟨c.says, ⟨h, KX, G⟩, c.ex⟩ (TB _ (List.mem_singleton.mpr rfl)) F'⟩
  · rw [List.mem_singleton.mp hp]; exact c.empty _ hm
  · rw [List.mem_singleton.mp hp]; exact c.out _ hm
  · rw [List.mem_singleton.mp hp]; exact PySem.W.codeHd_of_K KX (c.hd _ hm)
end Fw
open PySem PySem.W PySem.Calls PyProof.Rows
set_option maxHeartbeats 0 in
theorem PySem.Challenge.cw_farwrap_k67_whole_far_rows_of_casts_holds : PySem.Challenge.rw_farwrap_k67_whole_far_rows_of_casts.Holds := by
  w_on; o_law
  refine HandSHeadRun.head_any (r := OpenLaw.row PySem.Challenge.rw_farwrap_k67_whole_far_rows_of_casts) (q := view (OpenLaw.row PySem.Challenge.rw_farwrap_k67_whole_far_rows_of_casts).prog [61]) (H := Fw.hk) (ob := Fw.ob) (M := 20000) (loose := Fw.names) (d := HandSHeadRun.topDef (OpenLaw.row PySem.Challenge.rw_farwrap_k67_whole_far_rows_of_casts).prog 61) (kwd := []) Fw.ob_eq
    (by kernel_rfl) (fun s => by kernel_rfl) Fw.run (by kernel_rfl) (by kernel_rfl) (by kernel_rfl) (by rfl) (by first | assumption | decide +kernel) (by decide +kernel) ⟨rfl, rfl, rfl, rfl, rfl, by decide +kernel⟩ ?hw ?hc
  case hw => w_witness2
  case hc =>
    refine LamX.walk_ofTsE (l := PySem.Challenge.rw_farwrap_k67_whole_far_rows_of_casts) (n := 63) (k := 10) (x := "_law_script") (CX := fun _ => C8.CX0) rfl (by decide) (by kernel_rfl) ⟨rfl, by decide, by decide⟩ ?F (fun _ _ _ _ _ z => z)
    intro w mg fa h Y G hmg0
    obtain ⟨K, KX, c⟩ := Y
    have hmg : mg ("law" : PySem.Str) = some (.ref fa) := by
      have e : (HandSHeadRun.topDef (OpenLaw.row PySem.Challenge.rw_farwrap_k67_whole_far_rows_of_casts).prog 61).name = ("law" : PySem.Str) := by kernel_rfl
      rw [← e]
      exact hmg0
    exact ⟨K, KX, Fw.law_at KX c G hmg⟩
