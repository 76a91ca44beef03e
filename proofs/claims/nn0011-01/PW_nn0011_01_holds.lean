import PyProof.Rows.All
import Wide.All
import OpenK.AllK
import Wide.FinOn
import PySem.Challenge.RW_nn0011_01
set_option Elab.async false
set_option maxRecDepth 100000
set_option maxHeartbeats 8000000
set_option compiler.extract_closed false
section
namespace Mine
open PySem PySem.W PyProof.Rows
open_top hd for PySem.Challenge.rw_nn0011_01
end Mine
end
section
namespace Mine
section
local macro_rules | `(tactic| omega) => `(tactic| first | decide | with_reducible assumption | lia)
section
/-! digits to the base b, the least first -/
noncomputable def dgF (b : Int) : Nat → Int → List Int
  | 0, _ => []
  | f + 1, r => if 0 < r then r.fmod b :: dgF b f (r.fdiv b) else []
noncomputable def dg (b n : Int) : List Int := dgF b n.toNat n
noncomputable def val (b : Int) : List Int → Int
  | [] => 0
  | x :: r => x + b * val b r
noncomputable def Dig (b : Int) (xs : List Int) : Prop := ∀ x ∈ xs, 0 ≤ x ∧ x < b
noncomputable def nrm : List Int → List Int
  | [] => []
  | x :: r => match nrm r with
    | [] => if x = 0 then [] else [x]
    | y :: t => x :: y :: t

theorem fdiv_pos' {b r : Int} (hb : 2 ≤ b) : r.fdiv b = r / b := Int.fdiv_eq_ediv_of_nonneg _ (by omega)
theorem fmod_pos' {b r : Int} (hb : 2 ≤ b) : r.fmod b = r % b := Int.fmod_eq_emod_of_nonneg _ (by omega)
theorem fdiv_lt {b r : Int} (hb : 2 ≤ b) (hr : 0 < r) : r.fdiv b < r := by
  rw [fdiv_pos' hb]
  exact Int.ediv_lt_self_of_pos_of_ne_one hr (by omega)
theorem fdiv_nonneg {b r : Int} (hb : 2 ≤ b) (hr : 0 ≤ r) : 0 ≤ r.fdiv b := by
  rw [fdiv_pos' hb]
  exact Int.ediv_nonneg hr (by omega)
theorem fmod_rest {b : Int} (hb : 2 ≤ b) (r : Int) : 0 ≤ r.fmod b ∧ r.fmod b < b := by
  rw [fmod_pos' hb]
  exact ⟨Int.emod_nonneg _ (by omega), Int.emod_lt_of_pos _ (by omega)⟩
theorem fdm {b : Int} (hb : 2 ≤ b) (r : Int) : r.fmod b + b * r.fdiv b = r := by
  rw [fmod_pos' hb, fdiv_pos' hb]
  exact Int.emod_add_mul_ediv r b
theorem fdm_uniq {b x q : Int} (hb : 2 ≤ b) (h0 : 0 ≤ x) (h1 : x < b) : (x + b * q).fmod b = x ∧ (x + b * q).fdiv b = q := by
  rw [fmod_pos' hb, fdiv_pos' hb]
  constructor
  · rw [Int.add_mul_emod_self_left]; exact Int.emod_eq_of_lt h0 h1
  · rw [Int.add_mul_ediv_left _ _ (by omega), Int.ediv_eq_zero_of_lt h0 h1, Int.zero_add]

theorem tn_succ {r : Int} (h : 0 < r) : ∃ k, r.toNat = k + 1 := ⟨r.toNat - 1, (Nat.succ_pred_eq_of_pos (Int.lt_toNat.mpr h)).symm⟩
theorem le_pred {n q : Int} {k : Nat} (h : n.toNat = k + 1) (hq : q < n) : q ≤ k := by omega
theorem le_one {n q : Int} {k : Nat} (h : n ≤ ((k + 1 : Nat) : Int)) (hq : q < n) : q ≤ k := Int.le_of_lt_add_one (Int.lt_of_lt_of_le hq h)
theorem tn_le {n : Int} {k : Nat} (h : n ≤ (k : Int)) : n.toNat < k + 1 := Nat.lt_succ_of_le (Int.toNat_le.mpr h)
theorem fdiv2_nat {n : Int} (h : 0 ≤ n) : n.fdiv 2 = ((n.toNat / 2 : Nat) : Int) := by
  obtain ⟨m, rfl⟩ := Int.eq_ofNat_of_zero_le h
  rw [Int.fdiv_eq_ediv_of_nonneg _ (by decide)]
  rfl
theorem dgF_fuel {b : Int} (hb : 2 ≤ b) : ∀ (f g : Nat) (r : Int), r ≤ f → r ≤ g → dgF b f r = dgF b g r
  | 0, 0, _, _, _ => rfl
  | 0, g + 1, r, h, _ => by
    rw [dgF, dgF, if_neg (Int.not_lt.mpr (show r ≤ 0 from h))]
  | f + 1, 0, r, _, h => by
    rw [dgF, dgF, if_neg (Int.not_lt.mpr (show r ≤ 0 from h))]
  | f + 1, g + 1, r, h1, h2 => by
    by_cases h : 0 < r
    · simp only [dgF, if_pos h]
      have := fdiv_lt hb h
      rw [dgF_fuel hb f g (r.fdiv b) (le_one h1 this) (le_one h2 this)]
    · simp only [dgF, if_neg h]
theorem dg_zero (b : Int) : dg b 0 = [] := rfl
theorem dg_nil {b n : Int} (h : n ≤ 0) : dg b n = [] := by
  unfold dg
  rw [Int.toNat_of_nonpos h]; rfl
theorem dg_pos {b n : Int} (hb : 2 ≤ b) (h : 0 < n) : dg b n = n.fmod b :: dg b (n.fdiv b) := by
  unfold dg
  obtain ⟨k, hk⟩ := tn_succ h
  have h1 := fdiv_lt hb h
  rw [hk]
  simp only [dgF, if_pos h]
  rw [dgF_fuel hb k (n.fdiv b).toNat (n.fdiv b) (le_pred hk h1) (Int.self_le_toNat _)]
theorem dg_ind {b : Int} (hb : 2 ≤ b) {P : Int → Prop} (h0 : P 0) (h1 : ∀ n, 0 < n → P (n.fdiv b) → P n) : ∀ n, 0 ≤ n → P n := by
  have all : ∀ (k : Nat) (n : Int), 0 ≤ n → n ≤ k → P n := by
    intro k
    induction k with
    | zero => intro n a c; have : n = 0 := by omega
              exact this ▸ h0
    | succ k ih =>
      intro n a c
      by_cases h : 0 < n
      · exact h1 n h (ih _ (fdiv_nonneg hb a) (by have := fdiv_lt hb h; omega))
      · have : n = 0 := by omega
        exact this ▸ h0
  exact fun n h => all n.toNat n h (by omega)
theorem val_dg {b : Int} (hb : 2 ≤ b) : ∀ n, 0 ≤ n → val b (dg b n) = n := by
  refine dg_ind hb rfl fun n hn ih => ?_
  rw [dg_pos hb hn, val, ih, fdm hb]
theorem dig_dg {b : Int} (hb : 2 ≤ b) : ∀ n, 0 ≤ n → Dig b (dg b n) := by
  refine dg_ind hb (fun _ h => nomatch h) fun n hn ih x hx => ?_
  rw [dg_pos hb hn] at hx
  rcases List.mem_cons.mp hx with rfl | hx
  · exact fmod_rest hb n
  · exact ih x hx
theorem val_nonneg {b : Int} (hb : 2 ≤ b) : ∀ {xs : List Int}, Dig b xs → 0 ≤ val b xs
  | [], _ => Int.le_refl _
  | x :: r, h => by
    have h1 := (h x (.head _)).1
    have h2 := val_nonneg hb (xs := r) fun y hy => h y (.tail _ hy)
    have h3 : 0 ≤ b * val b r := Int.mul_nonneg (by omega) h2
    rw [val]; omega
theorem dg_snoc {b x q : Int} (hb : 2 ≤ b) (h0 : 0 ≤ x) (h1 : x < b) (hq : 0 ≤ q) : dg b (x + b * q) = if x + b * q = 0 then [] else x :: dg b q := by
  by_cases h : x + b * q = 0
  · rw [if_pos h, h]; rfl
  · rw [if_neg h]
    have h3 : 0 ≤ b * q := Int.mul_nonneg (by omega) hq
    rw [dg_pos hb (by omega), (fdm_uniq hb h0 h1).1, (fdm_uniq hb h0 h1).2]
theorem nrm_dg {b : Int} (hb : 2 ≤ b) : ∀ {xs : List Int}, Dig b xs → nrm xs = dg b (val b xs)
  | [], _ => rfl
  | x :: r, h => by
    have hx := h x (.head _)
    have hr : Dig b r := fun y hy => h y (.tail _ hy)
    have ih := nrm_dg hb hr
    have hv := val_nonneg hb hr
    rw [val, dg_snoc hb hx.1 hx.2 hv, nrm, ih]
    by_cases hz : val b r = 0
    · rw [hz, Int.mul_zero, Int.add_zero, dg_zero]
    · have hp : 0 < val b r := by omega
      have hm : 0 < b * val b r := Int.mul_pos (by omega) hp
      have hne : ¬ x + b * val b r = 0 := by omega
      rw [dg_pos hb hp]
      simp only [if_neg hne]
theorem nrm_snoc0 : ∀ xs : List Int, nrm (xs ++ [0]) = nrm xs
  | [] => rfl
  | x :: r => by
    show nrm (x :: (r ++ [0])) = nrm (x :: r)
    rw [nrm, nrm_snoc0 r, nrm]
theorem nrm_snoc : ∀ (xs : List Int) {x : Int}, x ≠ 0 → nrm (xs ++ [x]) = xs ++ [x]
  | [], x, h => by simp [nrm, h]
  | y :: r, x, h => by
    show nrm (y :: (r ++ [x])) = y :: (r ++ [x])
    rw [nrm, nrm_snoc r h]
    cases r <;> rfl
theorem dg_len {b : Int} (hb : 2 ≤ b) : ∀ (k : Nat) (n : Int), 0 ≤ n → n < 2 ^ k → (dg b n).length ≤ k
  | 0, n, h0, h1 => by
    rw [Int.le_antisymm (Int.le_of_lt_add_one (show n < 0 + 1 from h1)) h0]; exact Nat.le_refl _
  | k + 1, n, h0, h1 => by
    by_cases h : 0 < n
    · rw [dg_pos hb h, List.length_cons]
      refine Nat.succ_le_succ (dg_len hb k _ (fdiv_nonneg hb h0) ?_)
      have e := fdm hb n
      have f := fmod_rest hb n
      have g := fdiv_nonneg hb h0
      have hp : (2 : Int) ^ (k + 1) = 2 * 2 ^ k := by rw [Int.pow_succ, Int.mul_comm]
      have hm : 2 * n.fdiv b ≤ b * n.fdiv b := Int.mul_le_mul_of_nonneg_right hb g
      have hn : b * n.fdiv b ≤ n := by
        have z := Int.le_add_of_nonneg_left (a := b * n.fdiv b) f.1
        rwa [e] at z
      exact Int.lt_of_mul_lt_mul_left (Int.lt_of_le_of_lt (Int.le_trans hm hn) (hp ▸ h1)) (by decide)
    · rw [dg_nil (Int.not_lt.mp h)]; exact Nat.zero_le _
theorem dg_one {b : Int} (hb : 2 ≤ b) : dg b 1 = [1] := by
  have h := dg_snoc hb (x := 1) (q := 0) (by omega) (by omega) (Int.le_refl _)
  rw [Int.mul_zero, Int.add_zero] at h
  rw [h]; rfl
/-! the base of the code -/
theorem base_ge {w : Int} (h : 3 ≤ w) (h' : w ≤ 9) : (2 : Int) ≤ 2 ^ w.toNat ∧ (2 : Int) ^ w.toNat ≤ 512 := by
  have : w = 3 ∨ w = 4 ∨ w = 5 ∨ w = 6 ∨ w = 7 ∨ w = 8 ∨ w = 9 := by omega
  rcases this with rfl | rfl | rfl | rfl | rfl | rfl | rfl <;> decide
/-! the loop that peels digits off -/
theorem peel_step {b n k : Int} {xs : List Int} (hb : 2 ≤ b) (hk : 0 < k) (h : xs ++ dg b k = dg b n) : (xs ++ [k.fmod b]) ++ dg b (k.fdiv b) = dg b n := by
  rw [dg_pos hb hk] at h
  rw [List.append_assoc]; exact h
theorem peel_len {b n k : Int} {xs : List Int} (h : xs ++ dg b k = dg b n) : xs.length ≤ (dg b n).length := by
  rw [← h, List.length_append]; exact Nat.le_add_right _ _
theorem peel_done {b n k : Int} {xs : List Int} (hk : k ≤ 0) (h : xs ++ dg b k = dg b n) : xs = dg b n := by
  rw [dg_nil hk, List.append_nil] at h; exact h
end
section
open PySem PySem.W PyProof.Rows
noncomputable abbrev Led := List (Addr × Obj)
/-- what a call of the def at f with vs does: r comes back, tl is what it leaves made -/
noncomputable def Does (w : World) (mean : ExcName → Option Value) (mg mb : Str → Option Value) (f : Addr) (vs : List Value) (news : Led) (d u : Nat) (Post : Value → Led → Prop) : Prop :=
  ∀ (dp un : Nat) (gd : Option (List Code)) (cn : Str) (cs : Scope) (a : Addr) (ccd : Value) (cl : List (Str × Addr)) (outer : List Env) (A₀ : Around) (base h₀ : Heap) (L : Addr) (m : Str → Option Value) (s : Shared) (Q E : Value → Shared → Prop),
    Below A₀ base outer h₀ → Fr h₀ L s.heap m → (hd.heap_39 w.params).In h₀ → News h₀ L s.heap news → Top hd.view_39 (looseW hd.view_39 []) mean mg mb h₀ → cs.kind = .function →
    dp + d < recursionLimit → un + u < cLine →
    (∀ r tl h' tk', Fr h₀ L h' m → News h₀ L h' (tl ++ news) → (∀ q ∈ news, ∀ p ∈ tl, q.1 < p.1) → Post r tl → Q r { s with heap := h', toks := tk' }) →
    wpAny (model PySem.Challenge.rw_nn0011_01.row.prog w) (ktrTop dp un gd cn cs L a ccd cl outer) (call (.ref f) vs) Q E s

noncomputable def IsInt (x : Int) (r : Value) (tl : Led) : Prop := ∃ t, r = .int x t ∧ tl = []
noncomputable def IsNone (r : Value) (tl : Led) : Prop := r = .none ∧ tl = []
noncomputable def IsL (xs : List Int) (r : Value) (tl : Led) : Prop := ∃ a vs n, r = .ref a ∧ tl = [(a, listOf vs.toArray n)] ∧ IntsAre vs xs

section
variable {w : World} {mean : ExcName → Option Value} {mg mb : Str → Option Value} {f : Addr} {vs : List Value} {news : Led} {d u : Nat}
  {dp un : Nat} {gd : Option (List Code)} {cn : Str} {cs : Scope} {a : Addr} {ccd : Value} {cl : List (Str × Addr)} {outer : List Env} {A₀ : Around} {base h₀ : Heap} {L : Addr} {m : Str → Option Value} {s : Shared} {Q E : Value → Shared → Prop}
theorem use_L {xs : List Int} (D : Does w mean mg mb f vs news d u (IsL xs)) (B : Below A₀ base outer h₀) (F : Fr h₀ L s.heap m) (X : (hd.heap_39 w.params).In h₀) (N : News h₀ L s.heap news) (T : Top hd.view_39 (looseW hd.view_39 []) mean mg mb h₀) (hk : cs.kind = .function)
    (hdp : dp + d < recursionLimit) (hun : un + u < cLine)
    (k : ∀ x ws n h' tk', Fr h₀ L h' m → News h₀ L h' ((x, listOf ws.toArray n) :: news) → (∀ p ∈ news, p.1 < x) → IntsAre ws xs → Q (.ref x) { s with heap := h', toks := tk' }) :
    wpAny (model PySem.Challenge.rw_nn0011_01.row.prog w) (ktrTop dp un gd cn cs L a ccd cl outer) (call (.ref f) vs) Q E s :=
  D dp un gd cn cs a ccd cl outer A₀ base h₀ L m s Q E B F X N T hk hdp hun fun r tl h' tk' F' N' ho ⟨x, ws, n, e1, e2, hI⟩ => by
    subst e1 e2
    exact k x ws n h' tk' F' N' (fun p hp => ho p hp _ (.head _)) hI
theorem use_I {x : Int} (D : Does w mean mg mb f vs news d u (IsInt x)) (B : Below A₀ base outer h₀) (F : Fr h₀ L s.heap m) (X : (hd.heap_39 w.params).In h₀) (N : News h₀ L s.heap news) (T : Top hd.view_39 (looseW hd.view_39 []) mean mg mb h₀) (hk : cs.kind = .function)
    (hdp : dp + d < recursionLimit) (hun : un + u < cLine)
    (k : ∀ t h' tk', Fr h₀ L h' m → News h₀ L h' news → Q (.int x t) { s with heap := h', toks := tk' }) :
    wpAny (model PySem.Challenge.rw_nn0011_01.row.prog w) (ktrTop dp un gd cn cs L a ccd cl outer) (call (.ref f) vs) Q E s :=
  D dp un gd cn cs a ccd cl outer A₀ base h₀ L m s Q E B F X N T hk hdp hun fun r tl h' tk' F' N' ho ⟨t, e1, e2⟩ => by
    subst e1 e2
    exact k t h' tk' F' N'
theorem use_N (D : Does w mean mg mb f vs news d u IsNone) (B : Below A₀ base outer h₀) (F : Fr h₀ L s.heap m) (X : (hd.heap_39 w.params).In h₀) (N : News h₀ L s.heap news) (T : Top hd.view_39 (looseW hd.view_39 []) mean mg mb h₀) (hk : cs.kind = .function)
    (hdp : dp + d < recursionLimit) (hun : un + u < cLine)
    (k : ∀ h' tk', Fr h₀ L h' m → News h₀ L h' news → Q .none { s with heap := h', toks := tk' }) :
    wpAny (model PySem.Challenge.rw_nn0011_01.row.prog w) (ktrTop dp un gd cn cs L a ccd cl outer) (call (.ref f) vs) Q E s :=
  D dp un gd cn cs a ccd cl outer A₀ base h₀ L m s Q E B F X N T hk hdp hun fun r tl h' tk' F' N' ho ⟨e1, e2⟩ => by
    subst e1 e2
    exact k h' tk' F' N'
theorem end_L {xs : List Int} {ws : List Value} {x : Addr} {n : Nat} {h' : Heap} {tk' : Nat} (hret : ∀ r tl h' tk', Fr h₀ L h' m → News h₀ L h' (tl ++ news) → (∀ q ∈ news, ∀ p ∈ tl, q.1 < p.1) → IsL xs r tl → Q r { s with heap := h', toks := tk' })
    (F : Fr h₀ L h' m) (N : News h₀ L h' ((x, listOf ws.toArray n) :: news)) (lt : ∀ p ∈ news, p.1 < x) (hI : IntsAre ws xs) : Q (.ref x) { s with heap := h', toks := tk' } :=
  hret _ [_] _ _ F N (fun q hq p hp => by rw [List.mem_singleton.mp hp]; exact lt q hq) ⟨_, _, _, rfl, rfl, hI⟩
theorem end_I {x : Int} {t : Tok} {h' : Heap} {tk' : Nat} (hret : ∀ r tl h' tk', Fr h₀ L h' m → News h₀ L h' (tl ++ news) → (∀ q ∈ news, ∀ p ∈ tl, q.1 < p.1) → IsInt x r tl → Q r { s with heap := h', toks := tk' })
    (F : Fr h₀ L h' m) (N : News h₀ L h' news) : Q (.int x t) { s with heap := h', toks := tk' } :=
  hret _ [] _ _ F N (fun _ _ _ h => nomatch h) ⟨_, rfl, rfl⟩
theorem end_N {h' : Heap} {tk' : Nat} (hret : ∀ r tl h' tk', Fr h₀ L h' m → News h₀ L h' (tl ++ news) → (∀ q ∈ news, ∀ p ∈ tl, q.1 < p.1) → IsNone r tl → Q r { s with heap := h', toks := tk' })
    (F : Fr h₀ L h' m) (N : News h₀ L h' news) : Q .none { s with heap := h', toks := tk' } :=
  hret _ [] _ _ F N (fun _ _ _ h => nomatch h) ⟨rfl, rfl⟩
end

theorem lookB : ∀ (l : List (Str × Value)) (y : Str), l.lookup y = kstB (fun _ => none) l y
  | [], _ => rfl
  | p :: r, y => by
    show List.lookup y ((p.1, p.2) :: r) = if y = p.1 then some p.2 else kstB (fun _ => none) r y
    rw [List.lookup_cons, lookB r y]
    by_cases h : y = p.1
    · rw [if_pos h, beq_iff_eq.mpr h]
    · rw [if_neg h, beq_false_of_ne h]
theorem frB {g h : Heap} {L : Addr} {l : List (Str × Value)} (F : Fr g L h (fun y => l.lookup y)) : Fr g L h (kstB (fun _ => none) l) := by
  have e : (fun y => l.lookup y) = kstB (fun _ => none) l := funext (lookB l)
  rw [← e]; exact F
theorem news_sub {h₀ h : Heap} {L : Addr} {l l' : Led} (N : News h₀ L h l) (hs : ∀ p ∈ l', p ∈ l) : News h₀ L h l' := fun p hp => N p (hs p hp)

/-- the walk stops here -/
structure Stop (P : Prop) : Prop where
  out : P
theorem Stop.on {P : Prop} (h : P) : Stop P := ⟨h⟩
theorem rl0 {a d r : Nat} (h : a + d < r) : a < r := Nat.lt_of_le_of_lt (Nat.le_add_right a d) h
theorem rl1 {a d n r : Nat} (h : a + d < r) (k : Nat.ble (1 + n) d = true) : a + 1 + n < r := by
  have := Nat.le_of_ble_eq_true k
  omega
theorem rl3 {a d n r : Nat} (h : a + d < r) (k : Nat.ble (3 + n) d = true) : a + 3 + n < r := by
  have := Nat.le_of_ble_eq_true k
  omega
theorem rlc {n : Nat} (k : Nat.blt n 9900 = true) : n < cLine := cLine_is ▸ Nat.le_of_ble_eq_true k
theorem rlr {n : Nat} (k : Nat.blt n 1000 = true) : n < recursionLimit := Nat.le_of_ble_eq_true k
theorem fold_m {h₀ h : Heap} {L : Addr} {m : Str → Option Value} {P : Prop} (F : Fr h₀ L h m) (k : let m' := m; Fr h₀ L h m' → P) : P := k F
theorem fold_A {α : Type} {M : Model} {A : Around} {x : Sem α} {Q : α → Shared → Prop} {E : Value → Shared → Prop} {s : Shared} (k : let A' := A; wpAny M A' x Q E s) : wpAny M A x Q E s := k
theorem fa2 {α β : Type} {P : α × β → Prop} (h : ∀ a b, P (a, b)) (c : α × β) : P c := h c.1 c.2
theorem fa3 {α β γ : Type} {P : α × β × γ → Prop} (h : ∀ a b c, P (a, b, c)) (c : α × β × γ) : P c := h c.1 c.2.1 c.2.2
theorem fa4 {α β γ δ : Type} {P : α × β × γ × δ → Prop} (h : ∀ a b c d, P (a, b, c, d)) (c : α × β × γ × δ) : P c := h c.1 c.2.1 c.2.2.1 c.2.2.2
theorem fa5 {α β γ δ ε : Type} {P : α × β × γ × δ × ε → Prop} (h : ∀ a b c d e, P (a, b, c, d, e)) (c : α × β × γ × δ × ε) : P c := h c.1 c.2.1 c.2.2.1 c.2.2.2.1 c.2.2.2.2
theorem gen_tk {α : Type} {M : Model} {A : Around} {x : Sem α} {Q : α → Shared → Prop} {E : Value → Shared → Prop} {s : Shared} {h : Heap} {t : Nat} (k : ∀ t, wpAny M A x Q E ⟨h, s.gens, s.drawn, t, s.os⟩) : wpAny M A x Q E { s with heap := h, toks := t } := k t
theorem fa10 {α β γ δ ε ζ η θ ι κ : Type} {P : α × β × γ × δ × ε × ζ × η × θ × ι × κ → Prop} (h : ∀ a b c d e f g i j k, P (a, b, c, d, e, f, g, i, j, k)) (c : α × β × γ × δ × ε × ζ × η × θ × ι × κ) : P c := h c.1 c.2.1 c.2.2.1 c.2.2.2.1 c.2.2.2.2.1 c.2.2.2.2.2.1 c.2.2.2.2.2.2.1 c.2.2.2.2.2.2.2.1 c.2.2.2.2.2.2.2.2.1 c.2.2.2.2.2.2.2.2.2
theorem fold_N {h₀ h : Heap} {L : Addr} {l : Led} {P : Prop} (N : News h₀ L h l) (k : News h₀ L h l → P) : P := k N
theorem tn_lt {k m : Int} (h : 0 < m) (h2 : k < m) : k.toNat < m.toNat := (Int.toNat_lt_toNat h).mpr h2
theorem tn_pos {k : Int} (h : 0 < k) : 0 < k.toNat := Int.lt_toNat.mpr h
structure PNum (p : Int) : Prop where
  n1 : 0 ≤ p
  n2 : ¬ p = 0
  n3 : 0 < p
  n4 : p ≤ 1000000
  n5 : p.natAbs < 1073741824
theorem pnum {p : Int} (h : 3 ≤ p) (h2 : p ≤ 9) : PNum p := by constructor <;> omega
structure DNum (x : Int) : Prop where
  n1 : x ≤ 512
  n2 : -2 ^ 64 < x
  n3 : x < 2 ^ 64
theorem dnum {x b : Int} (hb : 2 ≤ b ∧ b ≤ 512) (h : 0 ≤ x ∧ x < b) : DNum x := by constructor <;> omega
end
section
theorem val_set {b : Int} : ∀ (xs : List Int) (k : Nat) (v : Int), k < xs.length → val b (xs.set k v) = val b xs + (v - xs.getD k 0) * b ^ k
  | [], _, _, h => absurd h (Nat.not_lt_zero _)
  | x :: r, 0, v, _ => by
    show v + b * val b r = x + b * val b r + (v - x) * b ^ 0
    grind
  | x :: r, k + 1, v, h => by
    have ih := val_set (b := b) r k v (Nat.lt_of_succ_lt_succ h)
    show x + b * val b (r.set k v) = x + b * val b r + (v - r.getD k 0) * b ^ (k + 1)
    rw [ih]
    grind
theorem val_take {b : Int} : ∀ (xs : List Int) (k : Nat) (v : Int), xs[k]? = some v → val b (xs.take (k + 1)) = val b (xs.take k) + v * b ^ k
  | [], _, _, h => by simp at h
  | x :: r, 0, v, h => by
    have e : x = v := by simpa using h
    subst e
    show x + b * val b (r.take 0) = 0 + x * b ^ 0
    rw [List.take_zero]
    show x + b * 0 = _
    grind
  | x :: r, k + 1, v, h => by
    have ih := val_take (b := b) r k v (by simpa using h)
    show x + b * val b (r.take (k + 1)) = x + b * val b (r.take k) + v * b ^ (k + 1)
    rw [ih]
    grind
theorem val_zeros {b : Int} : ∀ (xs : List Int), (∀ x ∈ xs, x = 0) → val b xs = 0
  | [], _ => rfl
  | x :: r, h => by
    rw [val, val_zeros r (fun y hy => h y (.tail _ hy)), h x (.head _)]
    grind
theorem dig_set {b v : Int} {xs : List Int} {k : Nat} (h : Dig b xs) (h0 : 0 ≤ v) (h1 : v < b) : Dig b (xs.set k v) := by
  intro x hx
  rcases List.mem_or_eq_of_mem_set hx with hx | rfl
  · exact h x hx
  · exact ⟨h0, h1⟩
theorem dig_at {b : Int} {xs : List Int} (hb : 2 ≤ b) (h : Dig b xs) (k : Nat) : 0 ≤ xs.getD k 0 ∧ xs.getD k 0 < b := by
  by_cases hk : k < xs.length
  · rw [List.getD_eq_getElem?_getD, List.getElem?_eq_getElem hk]
    exact h _ (List.getElem_mem hk)
  · rw [List.getD_eq_getElem?_getD, List.getElem?_eq_none (by omega)]
    show 0 ≤ (0 : Int) ∧ (0 : Int) < b
    omega
/-- found, after i limbs of xs -/
structure MulO (b : Int) (xs ys : List Int) (i : Nat) (F : List Int) : Prop where
  len : F.length = xs.length + ys.length
  dig : Dig b F
  v : val b F = val b (xs.take i) * val b ys
  z : ∀ k, i + ys.length ≤ k → F.getD k 0 = 0
structure MulI (b : Int) (xs ys : List Int) (i : Nat) (x : Int) (j : Nat) (c : Int) (F : List Int) : Prop where
  len : F.length = xs.length + ys.length
  dig : Dig b F
  c0 : 0 ≤ c
  c1 : c < b
  v : val b F + c * b ^ (i + j) = val b (xs.take i) * val b ys + x * b ^ i * val b (ys.take j)
  z : ∀ k, i + ys.length ≤ k → F.getD k 0 = 0
theorem MulO.start {b : Int} (hb : 2 ≤ b) {xs ys F : List Int} (hl : F.length = xs.length + ys.length) (hz : ∀ x ∈ F, x = 0) : MulO b xs ys 0 F where
  len := hl
  dig := fun x hx => by rw [hz x hx]; omega
  v := by rw [val_zeros F hz, List.take_zero]; show 0 = 0 * val b ys; grind
  z := fun k _ => by
    by_cases hk : k < F.length
    · rw [List.getD_eq_getElem?_getD, List.getElem?_eq_getElem hk]
      exact hz _ (List.getElem_mem hk)
    · rw [List.getD_eq_getElem?_getD, List.getElem?_eq_none (by omega)]; rfl
theorem MulO.inn {b : Int} (hb : 2 ≤ b) {xs ys F : List Int} {i : Nat} (x : Int) (h : MulO b xs ys i F) : MulI b xs ys i x 0 0 F where
  len := h.len
  dig := h.dig
  c0 := Int.le_refl _
  c1 := by omega
  v := by rw [h.v, List.take_zero]; show _ = _ + x * b ^ i * 0; grind
  z := h.z
theorem MulI.step {b : Int} (hb : 2 ≤ b) {xs ys F : List Int} {i j : Nat} {x y c : Int} (hx0 : 0 ≤ x) (hx1 : x < b) (hi : i < xs.length) (hy : ys[j]? = some y) (hy0 : 0 ≤ y) (hy1 : y < b) (h : MulI b xs ys i x j c F) :
    MulI b xs ys i x (j + 1) ((c + (F.getD (i + j) 0 + x * y)).fdiv b) (F.set (i + j) ((c + (F.getD (i + j) 0 + x * y)).fmod b)) := by
  have hj : j < ys.length := by
    rcases Nat.lt_or_ge j ys.length with h | h
    · exact h
    · rw [List.getElem?_eq_none h] at hy; cases hy
  have hf := dig_at hb h.dig (i + j)
  have h0 := h.c0
  have h1 := h.c1
  have hv := h.v
  have ht := val_take (b := b) ys j y hy
  have hs := val_set (b := b) F (i + j) ((c + (F.getD (i + j) 0 + x * y)).fmod b) (by rw [h.len]; exact Nat.add_lt_add hi hj)
  have hp : 0 ≤ x * y := Int.mul_nonneg hx0 hy0
  have hq : x * y ≤ (b - 1) * (b - 1) := Int.mul_le_mul (Int.le_sub_one_of_lt hx1) (Int.le_sub_one_of_lt hy1) hy0 (Int.sub_nonneg_of_le (Int.le_trans (by decide) hb))
  generalize hS : c + (F.getD (i + j) 0 + x * y) = S at hs ⊢
  have hS0 : 0 ≤ S := hS ▸ Int.add_nonneg h0 (Int.add_nonneg hf.1 hp)
  have hm := fmod_rest hb S
  have he := fdm hb S
  have hd := fdiv_nonneg hb hS0
  refine ⟨?_, dig_set h.dig hm.1 hm.2, hd, ?_, ?_, ?_⟩
  · rw [List.length_set]; exact h.len
  · by_cases h : S.fdiv b < b
    · exact h
    · have h2 : b * b ≤ b * S.fdiv b := Int.mul_le_mul_of_nonneg_left (Int.not_lt.mp h) (Int.le_trans (by decide) hb)
      have h3 : (b - 1) * (b - 1) = b * b - 2 * b + 1 := by grind
      omega
  · rw [hs, ht, ← Nat.add_assoc i j 1, Int.pow_succ]
    have e1 : b ^ (i + j) = b ^ i * b ^ j := Int.pow_add b i j
    rw [e1] at hv ⊢
    generalize b ^ i = p at *
    generalize b ^ j = q at *
    grind
  · intro k hk
    rw [List.getD_eq_getElem?_getD, List.getElem?_set_ne (Nat.ne_of_lt (Nat.lt_of_lt_of_le (Nat.add_lt_add_left hj i) hk)), ← List.getD_eq_getElem?_getD]
    exact h.z k hk
theorem MulI.fin {b : Int} {xs ys F : List Int} {i : Nat} {x c : Int} (hx : xs[i]? = some x) (h : MulI b xs ys i x ys.length c F) : MulO b xs ys (i + 1) (F.set (i + ys.length) c) := by
  have hi : i < xs.length := by
    rcases Nat.lt_or_ge i xs.length with h | h
    · exact h
    · rw [List.getElem?_eq_none h] at hx; cases hx
  have hs := val_set (b := b) F (i + ys.length) c (by rw [h.len]; exact Nat.add_lt_add_right hi _)
  have hv := h.v
  rw [List.take_length] at hv
  have hz := h.z _ (Nat.le_refl _)
  rw [hz] at hs
  refine ⟨?_, dig_set h.dig h.c0 h.c1, ?_, ?_⟩
  · rw [List.length_set]; exact h.len
  · rw [hs, val_take xs i x hx]
    grind
  · intro k hk
    have hk2 : i + ys.length < k := by rw [Nat.add_right_comm] at hk; exact hk
    rw [List.getD_eq_getElem?_getD, List.getElem?_set_ne (Nat.ne_of_lt hk2), ← List.getD_eq_getElem?_getD]
    exact h.z k (Nat.le_of_lt hk2)
theorem MulO.fin {b : Int} (hb : 2 ≤ b) {xs ys F : List Int} (h : MulO b xs ys xs.length F) : nrm F = dg b (val b xs * val b ys) := by
  rw [nrm_dg hb h.dig, h.v, List.take_length]
end
section
open PySem
noncomputable def markF (bs : List Bool) (x : Int) : Nat → List Bool
  | 0 => bs
  | k + 1 => (markF bs x k).set (x * x + (k : Int) * x).toNat false
noncomputable def svF (n : Int) : Nat → List Bool × List Int
  | 0 => ((List.replicate (n + 1).toNat [true]).flatten, [])
  | i + 1 =>
    if ((svF n i).1.getD (2 + (i : Int) * 1).toNat false) = true then
      (markF (svF n i).1 (2 + (i : Int) * 1) (Builtin.Range.rangeSize ((2 + (i : Int) * 1) * (2 + (i : Int) * 1)) (n + 1) (2 + (i : Int) * 1)).toNat, (svF n i).2 ++ [2 + (i : Int) * 1])
    else svF n i
noncomputable def pr (n : Int) : List Int := (svF n (Builtin.Range.rangeSize 2 (n + 1) 1).toNat).2
theorem markF_len (bs : List Bool) (x : Int) : ∀ k, (markF bs x k).length = bs.length
  | 0 => rfl
  | k + 1 => by rw [markF, List.length_set, markF_len bs x k]
theorem rs_lt {a b c : Int} {j : Nat} (hc : 0 < c) (h : j < (Builtin.Range.rangeSize a b c).toNat) : a + (j : Int) * c < b := by
  unfold Builtin.Range.rangeSize at h
  rw [if_pos hc] at h
  by_cases hab : a < b
  · rw [if_pos hab] at h
    have h1 : (j : Int) ≤ (b - a - 1) / c := by
      have : 0 ≤ (b - a - 1) / c := Int.ediv_nonneg (by omega) (by omega)
      omega
    have h2 : (j : Int) * c ≤ (b - a - 1) / c * c := Int.mul_le_mul_of_nonneg_right h1 (by omega)
    have h3 := Int.ediv_mul_le (b - a - 1) (show c ≠ 0 by omega)
    omega
  · rw [if_neg hab] at h
    exact absurd h (Nat.not_lt_zero _)
theorem svF_len (n : Int) : ∀ i, (svF n i).1.length = (n + 1).toNat ∧ (svF n i).2.length ≤ i
  | 0 => ⟨by
      show (List.replicate (n + 1).toNat [true]).flatten.length = _
      simp, Nat.le_refl _⟩
  | i + 1 => by
    have ih := svF_len n i
    rw [svF]
    split
    · exact ⟨by show (markF _ _ _).length = _; rw [markF_len]; exact ih.1, by show ((svF n i).2 ++ _).length ≤ _; rw [List.length_append]; have := ih.2; simp; omega⟩
    · exact ⟨ih.1, Nat.le_succ_of_le ih.2⟩
theorem small_sv {a b c : Int} (ha : 0 ≤ a) (ha' : a < 2 ^ 30) (hb : 0 ≤ b) (hb' : b < 2 ^ 30) (hc : 0 < c) (hc' : c < 2 ^ 30) : Builtin.Range.small a b c = true := by
  have h1 : Builtin.Range.rangeSize a b c ≤ 2 ^ 31 := by
    unfold Builtin.Range.rangeSize
    rw [if_pos hc]
    split
    · have := Int.ediv_le_self c (show 0 ≤ b - a - 1 by omega)
      omega
    · omega
  have h0 : 0 ≤ Builtin.Range.rangeSize a b c := by
    unfold Builtin.Range.rangeSize
    rw [if_pos hc]
    split
    · have := Int.ediv_nonneg (show 0 ≤ b - a - 1 by omega) (show 0 ≤ c by omega)
      omega
    · omega
  unfold Builtin.Range.small
  rw [if_pos (show c > 0 from hc)]
  simp only [Builtin.Range.rangeFitsLong, Bool.and_eq_true, Bool.or_eq_true, decide_eq_true_eq, beq_iff_eq]
  omega
theorem pr_all : ∀ n : Nat, n < 23 → (pr n).length ≤ 22 ∧ ∀ x ∈ pr n, 2 ≤ x ∧ x ≤ n := by decide +kernel
theorem pr_rng {n x : Int} (h0 : 0 ≤ n) (h1 : n ≤ 22) (hx : x ∈ pr n) : 2 ≤ x ∧ x ≤ n := by
  have h := (pr_all n.toNat (tn_le h1)).2
  rw [Int.toNat_of_nonneg h0] at h
  exact h x hx
theorem pr_len {n : Int} (h0 : 0 ≤ n) (h1 : n ≤ 22) : (pr n).length ≤ 22 := by
  have h := (pr_all n.toNat (tn_le h1)).1
  rw [Int.toNat_of_nonneg h0] at h
  exact h
end
section
open PySem PySem.W PySem.Spec PySem.Calls PyProof.Rows PyProof.V
section
variable {prog : Program} {w : World} {A : Around} {E : Value → Shared → Prop} {s : Shared} {h₀ : Heap} {L l : Addr} {m : Str → Option Value} {news : List (Addr × Obj)} {value slice : PySem.Expr} {vs : List Value} {c : Nat} {x : Int} {t : Tok} {Q : Value → Shared → Prop}
theorem cut_at (n m : Nat) : max (0 : Int) (min (n : Int) m) = ((min n m : Nat) : Int) := by
  rcases Nat.le_total n m with h | h
  · rw [Nat.min_eq_left h, Int.min_eq_left (Int.ofNat_le.mpr h)]; exact Int.max_eq_right (Int.natCast_nonneg _)
  · rw [Nat.min_eq_right h, Int.min_eq_right (Int.ofNat_le.mpr h)]; exact Int.max_eq_right (Int.natCast_nonneg _)
theorem pick_from (vs : List Value) (h : 0 ≤ x) : slicePick vs.toArray (some x) none none = (vs.drop x.toNat).toArray := by
  have e : sliceBounds (some x) none none vs.toArray.size = (((min x.toNat vs.toArray.size : Nat) : Int), ((vs.toArray.size : Nat) : Int), 1) := by
    obtain ⟨n, rfl⟩ := Int.eq_ofNat_of_zero_le h
    simp only [sliceBounds, Option.getD_none, show (1 : Int) > 0 by decide, if_true, if_neg (Int.not_lt.mpr h), Int.toNat_natCast, cut_at]
  rw [kmk_pick_nat _ e]
  show ((vs.drop (min x.toNat vs.toArray.size)).take (vs.toArray.size - min x.toNat vs.toArray.size)).toArray = _
  rw [List.size_toArray, kmk_drop_min, List.take_of_length_le (by rw [List.length_drop]; exact Nat.sub_le_sub_left (Nat.min_le_left _ _) _)]
theorem pick_upto (vs : List Value) (h : 0 ≤ x) : slicePick vs.toArray none (some x) none = (vs.take x.toNat).toArray := by
  have e : sliceBounds none (some x) none vs.toArray.size = (((0 : Nat) : Int), ((min x.toNat vs.toArray.size : Nat) : Int), 1) := by
    obtain ⟨n, rfl⟩ := Int.eq_ofNat_of_zero_le h
    simp only [sliceBounds, Option.getD_none, show (1 : Int) > 0 by decide, if_true, if_neg (Int.not_lt.mpr h), Int.toNat_natCast, cut_at]
    rfl
  rw [kmk_pick_nat _ e]
  show ((vs.drop 0).take (min x.toNat vs.toArray.size - 0)).toArray = _
  rw [List.drop_zero, Nat.sub_zero, List.size_toArray, kmk_take_min]
theorem size_le {vs : List Value} (h : vs.length ≤ 1000) : vs.toArray.size ≤ sizeLine := by
  rw [List.size_toArray, sizeLine_eq]
  omega
theorem sl_from (F : Fr h₀ L s.heap m) (N : News h₀ L s.heap news) (hm : (l, listOf vs.toArray c) ∈ news) (hx : 0 ≤ x) (hz : vs.length ≤ 1000)
    (h : ∀ D h', Fr h₀ L h' m → News h₀ L h' ((D, listOf (vs.drop x.toNat).toArray 0) :: news) → (∀ p ∈ news, p.1 < D) → Q (.ref D) { s with heap := h' })
    (hs : subscripted slice false (.ref l) (.ref s.heap.objs.size) = operate [.ref s.heap.objs.size, .ref l] (getItem (.ref l) (.ref s.heap.objs.size))) (ht : ∀ r, letTemporaryGo value (.ref l) r = pure ()) :
    wpAny (model prog w) A (subscriptTail value slice (.ref l) (.ref s.heap.objs.size)) Q E { s with heap := s.heap.push { cls := .type "slice", data := .fields #[.int x t, .none, .none] } } := by
  refine kmk_slice F N (News.isList N hm) (IsPart.int _ _) IsPart.none (fun D h' F' N' l1 => h D h' F' ?_ l1) hs ht (size_le hz)
  rw [← pick_from vs hx]
  exact N'
theorem sl_upto (F : Fr h₀ L s.heap m) (N : News h₀ L s.heap news) (hm : (l, listOf vs.toArray c) ∈ news) (hx : 0 ≤ x) (hz : vs.length ≤ 1000)
    (h : ∀ D h', Fr h₀ L h' m → News h₀ L h' ((D, listOf (vs.take x.toNat).toArray 0) :: news) → (∀ p ∈ news, p.1 < D) → Q (.ref D) { s with heap := h' })
    (hs : subscripted slice false (.ref l) (.ref s.heap.objs.size) = operate [.ref s.heap.objs.size, .ref l] (getItem (.ref l) (.ref s.heap.objs.size))) (ht : ∀ r, letTemporaryGo value (.ref l) r = pure ()) :
    wpAny (model prog w) A (subscriptTail value slice (.ref l) (.ref s.heap.objs.size)) Q E { s with heap := s.heap.push { cls := .type "slice", data := .fields #[.none, .int x t, .none] } } := by
  refine kmk_slice F N (News.isList N hm) IsPart.none (IsPart.int _ _) (fun D h' F' N' l1 => h D h' F' ?_ l1) hs ht (size_le hz)
  rw [← pick_upto vs hx]
  exact N'
end
section
variable {prog : Program} {w : World} {A : Around} {E : Value → Shared → Prop} {s : Shared} {h₀ : Heap} {L l : Addr} {m : Str → Option Value} {news : List (Addr × Obj)} {value slice : PySem.Expr} {vs : List Value} {c : Nat} {k : Int} {u : Tok} {v : Value} {Q : Value → Shared → Prop}
theorem drop_at {α : Type} {l r : List α} {i : Nat} {a : α} (h : l.drop i = a :: r) : l[i]? = some a := by
  have h2 : (l.drop i)[0]? = some a := by rw [h]; rfl
  rw [List.getElem?_drop] at h2
  simpa using h2
theorem at_list (N : News h₀ L s.heap news) (hm : (l, listOf vs.toArray c) ∈ news) {r : List Value} (h0 : 0 ≤ k) (hk' : vs.drop k.toNat = v :: r) (hfit : k < 2 ^ 63) (h : Q v s)
    (hs : subscripted slice false (.ref l) (.int k u) = operate [.ref l, .int k u] (getItem (.ref l) (.int k u))) :
    wpAny (model prog w) A (subscriptTail value slice (.ref l) (.int k u)) Q E s := by
  have hl := News.isList N hm
  have hk := drop_at hk'
  exact tail_any hl.typeIs PySem.F.slot_list_getitem.lookup (wpAny_getItem_list hl h0 hfit (x := v) (by simpa using hk) h) hs
theorem at_tup {xs : Array Value} {d : Option Addr} {n : Nat} {sl : Array (Option Value)} (N : News h₀ L s.heap news) (hm : (l, { cls := .type "tuple", dict := d, data := .seq xs n, slots := sl }) ∈ news) {r : List Value} (h0 : 0 ≤ k) (hk' : xs.toList.drop k.toNat = v :: r) (hfit : k < 2 ^ 63) (h : Q v s)
    (hs : subscripted slice false (.ref l) (.int k u) = operate [.ref l, .int k u] (getItem (.ref l) (.int k u))) :
    wpAny (model prog w) A (subscriptTail value slice (.ref l) (.int k u)) Q E s := by
  have hl := News.isTup N hm
  have hk : xs[k.toNat]? = some v := by
    have := drop_at hk'
    rwa [Array.getElem?_toList] at this
  have hn : k < ((xs.size : Nat) : Int) := by
    have := (Array.getElem?_eq_some_iff.mp hk).1
    omega
  exact tail_any hl.typeIs PySem.F.slot_tuple_getitem.lookup (getItem_tuple hl (by omega) hfit (seqIndex_of h0 hn) (x := v) hk h) hs
theorem at_ints {xs : List Int} (N : News h₀ L s.heap news) (hm : (l, listOf vs.toArray c) ∈ news) (hI : IntsAre vs xs) (h0 : 0 ≤ k) (hk : k < xs.length) (hfit : k < 2 ^ 63) (h : ∀ t, Q (.int (xs.getD k.toNat 0) t) s)
    (hs : subscripted slice false (.ref l) (.int k u) = operate [.ref l, .int k u] (getItem (.ref l) (.int k u))) :
    wpAny (model prog w) A (subscriptTail value slice (.ref l) (.int k u)) Q E s := by
  have hl := News.isList N hm
  have hlt : k.toNat < xs.length := by omega
  obtain ⟨t, x, hx⟩ : ∃ t x, vs[k.toNat]? = some (.int x t) ∧ xs[k.toNat]? = some x := by
    have hlv : k.toNat < vs.length := by rw [hI.length]; exact hlt
    obtain ⟨x, t, e1, e2⟩ := hI.at k.toNat vs[k.toNat] (by simp [hlv])
    exact ⟨t, x, by rw [List.getElem?_eq_getElem hlv, e1], e2⟩
  have e : xs.getD k.toNat 0 = x := by rw [List.getD_eq_getElem?_getD, hx.2]; rfl
  have h' := h t
  rw [e] at h'
  exact tail_any hl.typeIs PySem.F.slot_list_getitem.lookup (wpAny_getItem_list hl h0 hfit (x := .int x t) (by simpa using hx.1) h') hs
end
end
section
open PySem PySem.W PySem.Spec PySem.Calls PyProof.Rows PyProof.V
/-- a turn: K is what the body is to end in -/
noncomputable def TurnK {σ : Type} (prog : Program) (w : World) (A : Around) (E : Value → Shared → Prop) (env : Env) (h₀ : Heap) (target : Expr) (body : List Stmt) (Q : Flow → Shared → Prop) (s : Shared) (its : Led) (led : σ → Led) (ps : σ → List (Str × Value)) (stored : List Str) (m₀ : Str → Option Value) (P : σ → Prop) (v : Value) (h : Heap) (tk : Nat) : Prop :=
  ∀ K : Flow → Shared → Prop, (∀ v s₂, Q (.ret v) s₂ → K (.ret v) s₂) → (∀ s₂, Q .next s₂ → K .brk s₂) →
    (∀ (c' : σ) (h' : Heap) (tk' : Nat) (m' : Str → Option Value) (news' : Led), Fr h₀ env.locals h' m' → News h₀ env.locals h' news' → (∀ p ∈ its, p ∈ news') → (∀ p ∈ led c', p ∈ news') → (∀ p ∈ ps c', m' p.1 = some p.2) → (∀ z, (∀ p ∈ ps c', z ≠ p.1) → stored.contains z = false → m' z = m₀ z) → P c' → K .next ⟨h', s.gens, s.drawn, tk', s.os⟩) →
    (∀ s₂, K .next s₂ → K .cont s₂) →
    wpAny (model prog w) A (assign target env v) (fun _ s₂ => wpAny (model prog w) A (execs body env) K E s₂) E ⟨h, s.gens, s.drawn, tk, s.os⟩
section
variable {prog : Program} {w : World} {A : Around} {E : Value → Shared → Prop} {s : Shared} {env : Env} {h₀ : Heap} {target : Expr} {body : List Stmt} {Q : Flow → Shared → Prop} {σ : Type}
theorem TurnK.imp {its : Led} {led : σ → Led} {ps : σ → List (Str × Value)} {stored : List Str} {m₀ : Str → Option Value} {P P' : σ → Prop} {v : Value} {h : Heap} {tk : Nat}
    (hi : ∀ c, P c → P' c) (t : TurnK prog w A E env h₀ target body Q s its led ps stored m₀ P v h tk) : TurnK prog w A E env h₀ target body Q s its led ps stored m₀ P' v h tk :=
  fun K kr kb fin kc => t K kr kb (fun c' h' tk' m' n' F N a b c d e => fin c' h' tk' m' n' F N a b c d (hi c' e)) kc
theorem allObj_mono : ∀ {ws : List (Addr × String)} {k k' : Led → Prop}, (∀ its, its.map (·.1) = ws.map (·.1) → k its → k' its) → AllObj ws k → AllObj ws k'
    | [], _, _, h, x => h [] rfl x
    | _ :: _, _, _, h, x => fun o ho => allObj_mono (fun its hm => h (_ :: its) (by simp [hm])) (x o ho)
theorem drop_two {α : Type} {l : List α} {i : Nat} {x : α} {r : List α} (h : l.drop i = x :: r) : l[i]? = some x ∧ l.drop (i + 1) = r := by
  by_cases hi : i < l.length
  · rw [List.drop_eq_getElem_cons hi] at h
    injection h with h1 h2
    exact ⟨by rw [List.getElem?_eq_getElem hi, h1], h2⟩
  · rw [List.drop_eq_nil_of_le (Nat.not_lt.mp hi)] at h
    cases h
/-- a walk over known items, by an invariant over the number of those that are done; the state's ledger may grow -/
theorem idx_grow {ws : List (Addr × String)} {keep : Led} {m₀ : Str → Option Value} (xs : List Itm) (led : σ → Led) (ps : σ → List (Str × Value)) (stored : List Str) (P : Nat → σ → Prop)
    (hoff : ∀ i c, P i c → ∀ p ∈ led c, ∀ b ∈ ws.map (·.1), p.1 ≠ b) (hkeep : ∀ i c, P i c → SubL keep (led c))
    (turn : ∀ (i : Nat) (a : Itm) (c : σ) (v : Value) (u : Str → Option Value) (h : Heap) (tk : Nat), xs[i]? = some a → P i c → a.Is v h → Fr h₀ env.locals h (kstB (fun z => if stored.contains z then u z else m₀ z) (ps c)) →
      AllObj ws (fun its => (∀ q ∈ its, ∀ p ∈ led c, q.1 ≠ p.1) → News h₀ env.locals h (its ++ led c) → TurnK prog w A E env h₀ target body Q s its led ps stored m₀ (P (i + 1)) v h tk))
    (done : ∀ (c : σ) (u : Str → Option Value) h tk, P xs.length c → Fr h₀ env.locals h (kstB (fun z => if stored.contains z then u z else m₀ z) (ps c)) → News h₀ env.locals h (led c) → Q .next { s with heap := h, toks := tk }) :
    ∀ (r : List Itm) (j : Nat) (c : σ) (m : Str → Option Value), j ≤ xs.length → xs.drop j = r → P j c → (∀ p ∈ ps c, m p.1 = some p.2) → (∀ z, (∀ p ∈ ps c, z ≠ p.1) → stored.contains z = false → m z = m₀ z) → ItemsRest prog w A E h₀ env target body Q s ws keep r m (led c)
  | [], j, c, m, hj, e, hp, h1, h2 => fun h tk F N => done c m h tk (Nat.le_antisymm hj (List.drop_eq_nil_iff.mp e) ▸ hp) (ksw_fr h1 h2 F) N
  | a :: r, j, c, m, hj, e, hp, h1, h2 => fun v h tk hv F => by
    have ha := drop_two e
    refine allObj_mono (fun its hm t N => ?_) (turn j a c v m h tk ha.1 hp hv (ksw_fr h1 h2 F))
    have hjx : j + 1 ≤ xs.length := (List.getElem?_eq_some_iff.mp ha.1).1
    exact t (fun q hq p hpc e => hoff j c hp p hpc q.1 (by rw [← hm]; exact List.mem_map.mpr ⟨q, hq, rfl⟩) e.symm) N _ (fun _ _ q => q) (fun _ q => q)
      (fun c' h' tk' m' news' F' N' hi' hl' hk' hr' hp' => ⟨h', tk', m', led c', rfl, F', fun p hp => N' p ((List.mem_append.mp hp).elim (hi' p) (hl' p)), fun p hpc q hq e => hoff _ c' hp' p hpc q.1 (by rw [← hm]; exact List.mem_map.mpr ⟨q, hq, rfl⟩) e, hkeep _ c' hp',
        idx_grow xs led ps stored P hoff hkeep turn done r (j + 1) c' m' hjx ha.2 hp' hk' hr'⟩) (fun _ q => q)

theorem list_grow {l : Addr} {vs : List Value} {xs : List Int} {nn : Nat} {m₀ : Str → Option Value} (led : σ → Led) (ps : σ → List (Str × Value)) (stored : List Str) (P : Addr → Nat → σ → Prop) (c₀ : σ)
    (hh : A.handled = none) (hl : ∀ I i c, P I i c → (l, listOf vs.toArray nn) ∈ led c) (hi : IntsAre vs xs) (hoff : ∀ I i c, P I i c → ∀ p ∈ led c, p.1 ≠ I)
    (F : Fr h₀ env.locals s.heap m₀) (N : News h₀ env.locals s.heap (led c₀)) (hl₀ : (l, listOf vs.toArray nn) ∈ led c₀) (hk : ∀ p ∈ ps c₀, m₀ p.1 = some p.2) (hp : ∀ I, (∀ p ∈ led c₀, p.1 < I) → P I 0 c₀)
    (turn : ∀ (i : Nat) (d : σ) (x : Int) (t : Tok) (u : Str → Option Value) (h : Heap) (tk : Nat) (I : Addr) (o : Obj), xs[i]? = some x → P I i d →
      Fr h₀ env.locals h (kstB (fun z => if stored.contains z then u z else m₀ z) (ps d)) → News h₀ env.locals h ((I, o) :: led d) →
      TurnK prog w A E env h₀ target body Q s [(I, o)] led ps stored m₀ (P I (i + 1)) (.int x t) h tk)
    (done : ∀ (I : Addr) (d : σ) (u : Str → Option Value) h tk, P I xs.length d → Fr h₀ env.locals h (kstB (fun z => if stored.contains z then u z else m₀ z) (ps d)) → News h₀ env.locals h (led d) → Q .next { s with heap := h, toks := tk }) :
    wpAny (model prog w) A (pyIter (.ref l)) (fun it s₂ => TurnsAt prog w A h₀ env target body Q E it s₂) E s := by
  refine iter_listTurns (lo := listOf vs.toArray nn) (vs := vs) (n := nn) hh F N hl₀ rfl rfl fun I hI => ?_
  refine idx_grow (keep := [(l, listOf vs.toArray nn)]) _ led ps stored (P I) ?_ (fun i c hP => And.intro (hl I i c hP) trivial) ?_ ?_ _ 0 c₀ m₀ (Nat.zero_le _) rfl (hp I hI) hk (fun _ _ _ => rfl)
  · intro i c hP p hp b hb
    rw [List.mem_singleton.mp hb]
    exact hoff I i c hP p hp
  · intro i at' d v u h tk ha hP hv F'
    rw [List.getElem?_map] at ha
    obtain ⟨v', hv', ea⟩ := Option.map_eq_some_iff.mp ha
    subst ea
    obtain ⟨x, t, hx, hxs⟩ := hi.at i v' hv'
    have e : v = v' := hv
    subst e
    subst hx
    exact fun o _ _ N' => turn i d x t u h tk I o hxs hP F' N'
  · intro d u h tk hP
    rw [List.length_map, hi.length] at hP
    exact done I d u h tk hP

theorem letGo_rangeiter {target : Expr} {I : Addr} {x left c : Int} {v : Value} {Q' : Unit → Shared → Prop} {s' : Shared} (hit : IsRangeIter s'.heap I x left c) (h : Q' () s') :
    wpAny (model prog w) A (letOwnedTupleGo target (.ref I) v) Q' E s' := by
  unfold letOwnedTupleGo
  cases target <;> first
    | exact wpAny_pure h
    | (cases v <;> first
        | exact wpAny_pure h
        | (refine wpAny_bind (wpAny_load hit ?_)
           exact wpAny_pure h))

theorem range_grow {r : Addr} {a b c : Int} {t₀ u₀ v₀ : Tok} {n : Nat} {m₀ : Str → Option Value} (led : σ → Led) (ps : σ → List (Str × Value)) (stored : List Str) (P : Addr → Nat → σ → Prop) (c₀ : σ)
    (hh : A.handled = none) (hr : IsRange s.heap r a b c t₀ u₀ v₀) (hsmall : Builtin.Range.small a b c = true) (hn : Builtin.Range.rangeSize a b c = (n : Int)) (hoff : ∀ I i c, P I i c → ∀ p ∈ led c, p.1 ≠ I)
    (F : Fr h₀ env.locals s.heap m₀) (N : News h₀ env.locals s.heap (led c₀)) (hk : ∀ p ∈ ps c₀, m₀ p.1 = some p.2) (hp : ∀ I, (∀ p ∈ led c₀, p.1 < I) → P I 0 c₀)
    (turn : ∀ (i : Nat) (d : σ) (t : Tok) (u : Str → Option Value) (h : Heap) (tk : Nat) (I : Addr) (o : Obj), i < n → P I i d →
      Fr h₀ env.locals h (kstB (fun z => if stored.contains z then u z else m₀ z) (ps d)) → News h₀ env.locals h ((I, o) :: led d) →
      TurnK prog w A E env h₀ target body Q s [(I, o)] led ps stored m₀ (P I (i + 1)) (.int (a + i * c) t) h tk)
    (done : ∀ (I : Addr) (d : σ) (u : Str → Option Value) h tk, P I n d → Fr h₀ env.locals h (kstB (fun z => if stored.contains z then u z else m₀ z) (ps d)) → News h₀ env.locals h (led d) → Q .next { s with heap := h, toks := tk }) :
    wpAny (model prog w) A (pyIter (.ref r)) (fun it s₂ => TurnsAt prog w A h₀ env target body Q E it s₂) E s := by
  refine wpAny_pyIter_range hr hsmall ?_
  have W := (Walks.range (prog := prog) (w := w) (A := A) hh s.heap.objs.size a c n).bound
  refine ktu_core (tk0 := s.toks) (ws := [(s.heap.objs.size, "range_iterator")]) (keep := []) (xs := (List.range n).map fun (i : Nat) => Itm.tok (fun t => .int (a + (i : Int) * c) t)) (KTurns.ofWalks W fun i v s Q E st q => letGo_rangeiter st q) (by rw [List.length_map, List.length_range]) (fun i v h hp => ?_) (fun i h st => ?_) (fun b hb => ?_) (fun b hb => List.mem_singleton.mp hb ▸ .head _) (fun b hb => .inl (List.mem_singleton.mp hb ▸ .head _)) ?_ (fun p hp hI => ?_) (by show IsRangeIter _ _ _ _ _; rw [hn]; simpa using Heap.get?_push_size _ rfl) (F.push _) (fun p hp => ⟨Heap.get?_push_of_some _ (N p hp).1, (N p hp).2⟩) trivial ?_
  · obtain ⟨hi, t, rfl⟩ := hp
    exact ⟨Itm.tok (fun t => .int (a + (i : Int) * c) t), by rw [List.getElem?_map, List.getElem?_range hi]; rfl, t, rfl⟩
  · exact ⟨[(s.heap.objs.size, _)], ⟨⟨rfl, rfl⟩, trivial⟩, fun p hp => by rw [List.mem_singleton.mp hp]; exact st⟩
  · rw [List.mem_singleton.mp hb]
    exact ⟨List.mem_cons_self .., next_is_new F⟩
  · intro hI
    exact absurd F.ns.lt ((List.mem_singleton.mp hI) ▸ Nat.lt_irrefl _)
  · exact absurd (Heap.lt_size (N p hp).1) ((List.mem_singleton.mp hI) ▸ Nat.lt_irrefl _)
  · refine idx_grow (keep := []) _ led ps stored (P s.heap.objs.size) ?_ (fun _ _ _ => trivial) ?_ ?_ _ 0 c₀ m₀ (Nat.zero_le _) rfl (hp _ fun p hp => Heap.lt_size (N p hp).1) hk (fun _ _ _ => rfl)
    · intro i c hP p hp b hb
      rw [List.mem_singleton.mp hb]
      exact hoff _ i c hP p hp
    · intro i at' d v u h tk ha hP hv F'
      rw [List.getElem?_map] at ha
      obtain ⟨i', hi', ea⟩ := Option.map_eq_some_iff.mp ha
      obtain ⟨hin, ei⟩ := List.getElem?_eq_some_iff.mp hi'
      rw [List.length_range] at hin
      rw [List.getElem_range] at ei
      subst ei ea
      obtain ⟨t, rfl⟩ := hv
      exact fun o _ _ N' => turn i d t u h tk _ o hin hP F' N'
    · intro d u h tk hP
      rw [List.length_map, List.length_range] at hP
      exact done _ d u h tk hP

theorem stop_turns {A' : Around} {E' : Value → Shared → Prop} {x : Value} (h : Stop (wpAny (model prog w) A (pyIter x) (fun it s₂ => TurnsAt prog w A' h₀ env target body Q E' it s₂) E s)) : wpAny (model prog w) A (pyIter x) (fun it s₂ => TurnsAt prog w A' h₀ env target body Q E' it s₂) E s := h.out
theorem addr_of {led : σ → Led} {c₀ c : σ} {I : Addr} (hadr : (led c).map (·.1) = (led c₀).map (·.1)) (h : ∀ p ∈ led c₀, p.1 < I) : ∀ p ∈ led c, p.1 < I := fun p hp => by
  obtain ⟨q, hq, e⟩ := List.mem_map.mp (hadr ▸ List.mem_map.mpr ⟨p, hp, rfl⟩ : p.1 ∈ (led c₀).map (·.1))
  rw [← e]; exact h q hq
theorem range_inv {r : Addr} {a b c : Int} {t₀ u₀ v₀ : Tok} {n : Nat} {m₀ : Str → Option Value} (led : σ → Led) (ps : σ → List (Str × Value)) (stored : List Str) (P : Nat → σ → Prop) (c₀ : σ)
    (hh : A.handled = none) (hr : IsRange s.heap r a b c t₀ u₀ v₀) (hsmall : Builtin.Range.small a b c = true) (hn : Builtin.Range.rangeSize a b c = (n : Int)) (hadr : ∀ c, (led c).map (·.1) = (led c₀).map (·.1))
    (F : Fr h₀ env.locals s.heap m₀) (N : News h₀ env.locals s.heap (led c₀)) (hk : ∀ p ∈ ps c₀, m₀ p.1 = some p.2) (hp : P 0 c₀)
    (turn : ∀ (i : Nat) (d : σ) (t : Tok) (u : Str → Option Value) (h : Heap) (tk : Nat) (I : Addr) (o : Obj), i < n → P i d →
      (∀ q ∈ [(I, o)], ∀ p ∈ led d, q.1 ≠ p.1) → Fr h₀ env.locals h (kstB (fun z => if stored.contains z then u z else m₀ z) (ps d)) → News h₀ env.locals h ((I, o) :: led d) →
      TurnK prog w A E env h₀ target body Q s [(I, o)] led ps stored m₀ (P (i + 1)) (.int (a + i * c) t) h tk)
    (done : ∀ (d : σ) (u : Str → Option Value) h tk, P n d → Fr h₀ env.locals h (kstB (fun z => if stored.contains z then u z else m₀ z) (ps d)) → News h₀ env.locals h (led d) → Q .next { s with heap := h, toks := tk }) :
    wpAny (model prog w) A (pyIter (.ref r)) (fun it s₂ => TurnsAt prog w A h₀ env target body Q E it s₂) E s :=
  range_grow led ps stored (fun I i c => (∀ p ∈ led c₀, p.1 < I) ∧ P i c) c₀ hh hr hsmall hn (fun I i c h p hp => Nat.ne_of_lt (addr_of (hadr c) h.1 p hp)) F N hk (fun I h => ⟨h, hp⟩)
    (fun i d t u h tk I o hi hP F N => (turn i d t u h tk I o hi hP.2 (fun q hq p hp => List.mem_singleton.mp hq ▸ Nat.ne_of_gt (addr_of (hadr d) hP.1 p hp)) F N).imp fun c h => ⟨hP.1, h⟩)
    (fun I d u h tk hP F N => done d u h tk hP.2 F N)
theorem list_inv {l : Addr} {vs : List Value} {xs : List Int} {nn : Nat} {m₀ : Str → Option Value} (led : σ → Led) (ps : σ → List (Str × Value)) (stored : List Str) (P : Nat → σ → Prop) (c₀ : σ)
    (hh : A.handled = none) (hl : ∀ c, (l, listOf vs.toArray nn) ∈ led c) (hi : IntsAre vs xs) (hadr : ∀ c, (led c).map (·.1) = (led c₀).map (·.1))
    (F : Fr h₀ env.locals s.heap m₀) (N : News h₀ env.locals s.heap (led c₀)) (hk : ∀ p ∈ ps c₀, m₀ p.1 = some p.2) (hp : P 0 c₀)
    (turn : ∀ (i : Nat) (d : σ) (x : Int) (t : Tok) (u : Str → Option Value) (h : Heap) (tk : Nat) (I : Addr) (o : Obj), xs[i]? = some x → P i d →
      (∀ q ∈ [(I, o)], ∀ p ∈ led d, q.1 ≠ p.1) → Fr h₀ env.locals h (kstB (fun z => if stored.contains z then u z else m₀ z) (ps d)) → News h₀ env.locals h ((I, o) :: led d) →
      TurnK prog w A E env h₀ target body Q s [(I, o)] led ps stored m₀ (P (i + 1)) (.int x t) h tk)
    (done : ∀ (d : σ) (u : Str → Option Value) h tk, P xs.length d → Fr h₀ env.locals h (kstB (fun z => if stored.contains z then u z else m₀ z) (ps d)) → News h₀ env.locals h (led d) → Q .next { s with heap := h, toks := tk }) :
    wpAny (model prog w) A (pyIter (.ref l)) (fun it s₂ => TurnsAt prog w A h₀ env target body Q E it s₂) E s :=
  list_grow led ps stored (fun I i c => (∀ p ∈ led c₀, p.1 < I) ∧ P i c) c₀ hh (fun _ _ c _ => hl c) hi (fun I i c h p hp => Nat.ne_of_lt (addr_of (hadr c) h.1 p hp)) F N (hl c₀) hk (fun I h => ⟨h, hp⟩)
    (fun i d x t u h tk I o hx hP F N => (turn i d x t u h tk I o hx hP.2 (fun q hq p hp => List.mem_singleton.mp hq ▸ Nat.ne_of_gt (addr_of (hadr d) hP.1 p hp)) F N).imp fun c h => ⟨hP.1, h⟩)
    (fun I d u h tk hP F N => done d u h tk hP.2 F N)

theorem enum_at : ∀ {vs : List Value} {j i : Nat} {a : Itm}, (enumItems j vs)[i]? = some a → ∃ v, vs[i]? = some v ∧ ∀ w h, a.Is w h → ∃ T t, w = .ref T ∧ IsTup h T #[.int ((j + i : Nat) : Int) t, v]
  | [], _, _, _, h => nomatch h
  | v :: r, j, 0, a, h => by
    injection h with e
    subst e
    exact ⟨v, rfl, fun w h ⟨T, t, e, hT⟩ => ⟨T, t, e, hT⟩⟩
  | v :: r, j, i + 1, a, h => by
    obtain ⟨u, hu, k⟩ := enum_at (vs := r) (j := j + 1) (i := i) h
    exact ⟨u, hu, fun w h hw => (show j + (i + 1) = j + 1 + i by rw [Nat.add_comm i 1, Nat.add_assoc]) ▸ k w h hw⟩
theorem enum_len : ∀ (vs : List Value) (j : Nat), (enumItems j vs).length = vs.length
  | [], _ => rfl
  | _ :: r, j => congrArg (· + 1) (enum_len r (j + 1))
theorem enum_inv {elts : List Expr} {k : Nat} {pos : Pos} {l : Addr} {vs : List Value} {xs : List Int} {nn : Nat} {m₀ : Str → Option Value} (led : σ → Led) (ps : σ → List (Str × Value)) (stored : List Str) (P : Nat → σ → Prop) (c₀ : σ)
    (hh : A.handled = none) (hl : ∀ c, (l, listOf vs.toArray nn) ∈ led c) (hi : IntsAre vs xs) (hadr : ∀ c, (led c).map (·.1) = (led c₀).map (·.1))
    (F : Fr h₀ env.locals s.heap m₀) (N : News h₀ env.locals s.heap (led c₀)) (hk : ∀ p ∈ ps c₀, m₀ p.1 = some p.2) (hp : P 0 c₀)
    (turn : ∀ (i : Nat) (c : σ) (x : Int) (t tx : Tok) (T : Addr) (u : Str → Option Value) (h : Heap) (tk : Nat) (I : Addr) (o1 o2 : Obj), xs[i]? = some x → P i c → IsTup h T #[.int i t, .int x tx] →
      (∀ q ∈ [(I + 1, o1), (I, o2)], ∀ p ∈ led c, q.1 ≠ p.1) → Fr h₀ env.locals h (kstB (fun z => if stored.contains z then u z else m₀ z) (ps c)) → News h₀ env.locals h ((I + 1, o1) :: (I, o2) :: led c) →
      TurnK prog w A E env h₀ (.Tuple elts k pos) body Q s [(I + 1, o1), (I, o2)] led ps stored m₀ (P (i + 1)) (.ref T) h tk)
    (done : ∀ (c : σ) (u : Str → Option Value) h tk, P xs.length c → Fr h₀ env.locals h (kstB (fun z => if stored.contains z then u z else m₀ z) (ps c)) → News h₀ env.locals h (led c) → Q .next { s with heap := h, toks := tk }) :
    wpAny (model prog w) A (call (.type "enumerate") [.ref l]) (fun xv s₁ => wpAny (model prog w) A (pyIter xv) (fun it s₂ => TurnsAt prog w A h₀ env (.Tuple elts k pos) body Q E it s₂) E s₁) E s := by
  refine ktu_enum (lo := listOf vs.toArray nn) (vs := vs) (n := nn) hh F N (hl c₀) rfl rfl rfl fun I hI => ?_
  refine idx_grow (keep := [(l, listOf vs.toArray nn)]) _ led ps stored P ?_ (fun _ c _ => And.intro (hl c) trivial) ?_ ?_ _ 0 c₀ m₀ (Nat.zero_le _) rfl hp hk (fun _ _ _ => rfl)
  · intro i c _ p hpc b hb
    have h2 : p.1 < I := addr_of (hadr c) hI p hpc
    rcases List.mem_cons.mp hb with rfl | hb
    · exact Nat.ne_of_lt (Nat.lt_succ_of_lt h2)
    · exact List.mem_singleton.mp hb ▸ Nat.ne_of_lt h2
  · intro i a c v u h tk ha hP hv F'
    obtain ⟨v', hv', ka⟩ := enum_at ha
    obtain ⟨x, t, hx, hxs⟩ := hi.at i v' hv'
    obtain ⟨T, t', rfl, hT⟩ := ka v h hv
    rw [hx, Nat.zero_add] at hT
    exact fun o1 _ o2 _ ho N' => turn i c x t' t T u h tk I o1 o2 hxs hP hT ho F' N'
  · intro d u h tk hP
    rw [enum_len, hi.length] at hP
    exact done d u h tk hP
/-- a while loop; K is what the body is to end in -/
theorem wh {L : Addr} {test : Expr} {pos : Pos} {m₀ : Str → Option Value} (led : σ → Led) (ps : σ → List (Str × Value)) (stored : List Str) (P : σ → Prop) (μ : σ → Nat) (c₀ : σ)
    (F : Fr h₀ L s.heap m₀) (N : News h₀ L s.heap (led c₀)) (hk : ∀ p ∈ ps c₀, m₀ p.1 = some p.2) (hp : P c₀)
    (turn : ∀ (c : σ) (u : Str → Option Value) (h : Heap) (tk : Nat), P c → Fr h₀ L h (kstB (fun z => if stored.contains z then u z else m₀ z) (ps c)) → News h₀ L h (led c) → ∀ K : Flow → Shared → Prop, (∀ v s₂, Q (.ret v) s₂ → K (.ret v) s₂) → (∀ s₂, Q .next s₂ → K .brk s₂) →
      (∀ (c' : σ) (h' : Heap) (tk' : Nat) (m' : Str → Option Value) (news' : Led), Fr h₀ L h' m' → News h₀ L h' news' → (∀ p ∈ led c', p ∈ news') → (∀ p ∈ ps c', m' p.1 = some p.2) → (∀ z, (∀ p ∈ ps c', z ≠ p.1) → stored.contains z = false → m' z = m₀ z) → P c' → μ c' < μ c → K .next ⟨h', s.gens, s.drawn, tk', s.os⟩) →
      (∀ s₂, K .next s₂ → K .cont s₂) →
      wpAny (model prog w) A (isTrue test env (eval test env)) (fun b s₂ => if b = true then wpAny (model prog w) A (execs body env) K E s₂ else Q .next s₂) E ⟨h, s.gens, s.drawn, tk, s.os⟩)
    (hE : PassesOwn (model prog w) A env E := by passes_own) :
    wpAny (model prog w) A (exec (.While test body [] pos) env) Q E s :=
  ksw_while led ps (fun _ => True) stored P μ c₀ F N trivial hk hp (fun c u h tk _ hp F N => turn c u h tk hp F N (KswPost h₀ L s led ps (fun _ => True) stored m₀ P μ Q c) (fun _ _ q => q) (fun _ q => q)
    (fun c' _ _ _ _ F N a b d e f => ksw_end c' F N a trivial b d e f) fun _ q => q) hE
/-- ranges, kept in the ledger -/
noncomputable abbrev rgObj (a b c : Int) (t u v : Tok) : Obj := { cls := .type "range", data := .fields #[.int a t, .int b u, .int c v] }
theorem rg_news {L : Addr} {m : Str → Option Value} {news : Led} {a b c : Int} {t₁ u₁ v₁ : Tok} {h' : Heap} (F : Fr h₀ L s.heap m) (hr : IsRange h' s.heap.objs.size a b c t₁ u₁ v₁) (N' : News h₀ L h' news) : News h₀ L h' ((s.heap.objs.size, rgObj a b c t₁ u₁ v₁) :: news) := fun p hp => by
  rcases List.mem_cons.mp hp with rfl | hp
  · exact ⟨hr, fun e => absurd F.ns.lt (by rw [← e]; exact Nat.lt_irrefl _), next_is_new F⟩
  · exact N' p hp
theorem rg_two {L : Addr} {m : Str → Option Value} {news : Led} {Q : Value → Shared → Prop} {a b : Int} {t u : Tok} (F : Fr h₀ L s.heap m) (N : News h₀ L s.heap news)
    (h : ∀ R h' tk t₁ u₁ v₁, Fr h₀ L h' m → News h₀ L h' ((R, rgObj a b 1 t₁ u₁ v₁) :: news) → (∀ p ∈ news, p.1 < R) → Q (.ref R) { s with heap := h', toks := tk }) :
    wpAny (model prog w) A (call (.type "range") [.int a t, .int b u]) Q E s :=
  range2_rows F N fun h' tk t₁ u₁ v₁ hr F' N' _ => h _ h' tk t₁ u₁ v₁ F' (rg_news F hr N') fun p hp => Heap.lt_size (N p hp).1
theorem rg_three {L : Addr} {m : Str → Option Value} {news : Led} {Q : Value → Shared → Prop} {a b c : Int} {t u v : Tok} (F : Fr h₀ L s.heap m) (N : News h₀ L s.heap news) (hc : c ≠ 0) (hz : (b - a).natAbs < 2 ^ 30 ∧ c.natAbs < 2 ^ 30)
    (h : ∀ R h' tk t₁ u₁ v₁, Fr h₀ L h' m → News h₀ L h' ((R, rgObj a b c t₁ u₁ v₁) :: news) → (∀ p ∈ news, p.1 < R) → Q (.ref R) { s with heap := h', toks := tk }) :
    wpAny (model prog w) A (call (.type "range") [.int a t, .int b u, .int c v]) Q E s :=
  range3_rows F N hc (fun h' tk t₁ u₁ v₁ hr F' N' _ => h _ h' tk t₁ u₁ v₁ F' (rg_news F hr N') fun p hp => Heap.lt_size (N p hp).1) (Or.inl (PyProof.noPylong_small (by omega)))
end
end
section
open PySem PySem.W PySem.Spec PySem.Calls PyProof.Rows PyProof.V
noncomputable def rg (a c : Int) (n : Nat) : List Int := (List.range n).map fun (i : Nat) => a + (i : Int) * c
theorem rg_len (a c : Int) (n : Nat) : (rg a c n).length = n := by rw [rg, List.length_map, List.length_range]
theorem rg_at {a c : Int} {n i : Nat} (h : i < n) : (rg a c n)[i]? = some (a + (i : Int) * c) := by
  rw [rg, List.getElem?_map, List.getElem?_range h]; rfl
theorem rg_succ (a c : Int) (n : Nat) : rg a c (n + 1) = rg a c n ++ [a + (n : Int) * c] := by
  rw [rg, List.range_succ, List.map_append]; rfl
theorem ints_pt : ∀ {us : List Value} {xs : List Int}, us.length = xs.length → (∀ (j : Nat) (v : Value), us[j]? = some v → ∃ t x, xs[j]? = some x ∧ v = Value.int x t) → IntsAre us xs
  | [], [], _, _ => .nil
  | [], _ :: _, h, _ => by simp at h
  | _ :: _, [], h, _ => by simp at h
  | u :: us, x :: xs, h, k => by
    obtain ⟨t, x', hx, rfl⟩ := k 0 u rfl
    have e : x = x' := by simpa using hx
    subst e
    exact .cons _ _ (ints_pt (by simpa using h) fun j v hj => by
      obtain ⟨t, y, hy, e⟩ := k (j + 1) v (by simpa using hj)
      exact ⟨t, y, by simpa using hy, e⟩)
section
variable {prog : Program} {w : World} {A : Around} {E : Value → Shared → Prop} {s : Shared} {h₀ : Heap} {L : Addr} {m : Str → Option Value} {news : Led}
theorem list_range {Q : Value → Shared → Prop} {r : Addr} {a b c : Int} {t u v : Tok} {n : Nat} (hh : A.handled = none) (F : Fr h₀ L s.heap m) (N : News h₀ L s.heap news) (hr : IsRange s.heap r a b c t u v) (hsmall : Builtin.Range.small a b c = true)
    (hn : Builtin.Range.rangeSize a b c = n) (hlen : n ≤ 2 ^ 24)
    (h : ∀ D us k h' tk, Fr h₀ L h' m → News h₀ L h' ((D, listOf (List.toArray us) k) :: news) → (∀ p ∈ news, p.1 < D) → IntsAre us (rg a c n) → Q (.ref D) { s with heap := h', toks := tk }) :
    wpAny (model prog w) A (call (.type "list") [.ref r]) Q E s := by
  refine call_list_range hh hr hsmall hn hlen fun h' tk acc k hk hD hI => ?_
  have hD' : h'.get? s.heap.objs.size = some (listOf (List.toArray acc.toList) k) := by
    rw [Array.toArray_toList]
    exact hD
  refine h _ acc.toList k h' tk (F.keeps hk) (news_pushed F N hk hD' rfl) (fun p hp => Heap.lt_size (N p hp).1) (ints_pt (by rw [Array.length_toList, rg_len]; exact hI.1) fun j v hj => ?_)
  have hj2 : j < n := by
    have := (List.getElem?_eq_some_iff.mp hj).1
    rw [Array.length_toList] at this
    exact hI.1 ▸ this
  obtain ⟨t, e⟩ := hI.2 j v (by rw [← hj, Array.getElem?_toList])
  exact ⟨t, _, rg_at hj2, e⟩
end
end
section
open PySem PySem.W PySem.Spec PySem.Calls PyProof.Rows PyProof.V
open LCg
noncomputable def ZTurn (prog : Program) (w : World) (A : Around) (env : Env) (elt : Expr) (x x₂ : Str) (scope : Scope) (cl : List (Str × Addr)) : Prop :=
  ∀ a b ta tb C m₂ (s' : Shared) (Q' : Value → Shared → Prop) (E' : Value → Shared → Prop), s'.heap.Ns C m₂ → m₂ x = some (.int a ta) → m₂ x₂ = some (.int b tb) → (∀ t tk, Q' (.int (a + b) t) { s' with toks := tk }) → wpAny (model prog w) A (eval elt (compEnvC scope cl C env)) Q' E' s'
inductive ZInv (h₀ : Heap) (L : Addr) (m : Str → Option Value) (s₂ : Shared) (D C : Addr) (n : Nat) (St : Nat → Heap → Prop) (Fv : Nat → Value → Prop) (news : List (Addr × Obj)) (k : Nat) (s' : Shared) : Prop
  | mk (h' : Heap) (tk i : Nat) (ys : List Value) (m' : Str → Option Value) (e : s' = { s₂ with heap := h', toks := tk }) (hi : i ≤ n) (hk : k = n + 1 - i) (hl : ys.length = i) (st : St i h') (F : Fr h₀ L h' m) (hn : h'.Ns C m') (N : News h₀ L h' ((D, lst ys) :: news)) (hF : ∀ j y, ys[j]? = some y → Fv j y) : ZInv h₀ L m s₂ D C n St Fv news k s'
section
variable {prog : Program} {w : World} {A : Around} {E : Value → Shared → Prop} {s : Shared} {h₀ : Heap} {L : Addr} {m : Str → Option Value} {env : Env}
theorem block_Z {elt iter : Expr} {x x₂ : Str} {px px₂ tp : Pos} {tk} {scope : Scope} {cl : List (Str × Addr)} {pos : Pos} {s₂ : Shared} {I : Addr} {fp wr : List Addr} {n : Nat} {P : Nat → Array Value → Prop} {St : Nat → Heap → Prop} {Mid : Nat → Addr → Heap → Prop} {news : List (Addr × Obj)}
    {Pt : Nat → Value → Value → Prop} {Fv : Nat → Value → Prop} {RR : Value → Addr → Result → Shared → Prop}
    (W : WalksU prog w A I fp wr n P St Mid) (hP : ∀ i vals, P i vals → ∃ v₁ v₂, vals = #[v₁, v₂] ∧ Pt i v₁ v₂) (hsz : n ≤ sizeLine)
    (hcell : ∀ y ∈ scope.names, y.2 ≠ .cell) (hkind : scope.kind = .function) (hx : scope.names.lookup x = some .local) (hx₂ : scope.names.lookup x₂ = some .local) (hxx : x ≠ x₂) (hh : A.handled = none) (hst : St 0 s₂.heap) (hfp : ∀ b ∈ fp, b < s₂.heap.objs.size)
    (F : Fr h₀ L s₂.heap m) (N : News h₀ L s₂.heap news) (hwL : L ∉ wr) (hw₀ : ∀ b ∈ wr, h₀.get? b = none) (off : ∀ p ∈ news, p.1 ∉ wr)
    (turn : ∀ i v₁ v₂ C m₂ (s' : Shared) (Q' : Value → Shared → Prop) (E' : Value → Shared → Prop), Pt i v₁ v₂ → s'.heap.Ns C m₂ → m₂ x = some v₁ → m₂ x₂ = some v₂ → (∀ y tk, Fv i y → Q' y { s' with toks := tk }) → wpAny (model prog w) A (eval elt (compEnvC scope cl C env)) Q' E' s')
    (hRR : ∀ D C h tk m' ys, Fr h₀ L h m → News h₀ L h ((D, lst ys) :: news) → h.Ns C m' → h₀.get? C = none → h₀.get? D = none → C ≠ L → D ≠ L → C ≠ D → (∀ p ∈ news, p.1 ≠ C) → (∀ p ∈ news, p.1 < D) → ys.length = n → (∀ j y, ys[j]? = some y → Fv j y) → RR (.ref D) C (.ok .next) { s₂ with heap := h, toks := tk }) :
    wpAny (model prog w) A (newList []) (fun acc s₃ => wpAny (model prog w) A (newFunctionEnv scope env.globals cl [] env.qual none .none (some env)) (fun cenv s₄ =>
      codeAny (model prog w) A (.compStart (.ListComp elt [⟨.Tuple [.Name x px, .Name x₂ px₂] tk tp, iter, [], 0⟩] scope pos) 0 (.ref I) acc { cenv with scope := relabel scope env }) (RR acc cenv.locals) s₄) E s₃) E s₂ := by
  refine wpAny_newObj_type (wpAny_newFunctionEnv hcell (by intro y hy; simp at hy) (fun h₁ hns₁ hsb₁ => ?_) hkind)
  dsimp only at hns₁ hsb₁ ⊢
  generalize hH2 : s₂.heap.push { cls := .type "list", dict := none, data := .seq ([] : List Value).toArray } = H2 at hns₁ hsb₁ ⊢
  have hC : H2.objs.size = s₂.heap.objs.size + 1 := by rw [← hH2, Heap.size_push]
  have hDC : s₂.heap.objs.size ≠ H2.objs.size := by rw [hC]; exact Nat.ne_of_lt (Nat.lt_succ_self _)
  have below : ∀ b, b < s₂.heap.objs.size → b ≠ H2.objs.size ∧ b ≠ s₂.heap.objs.size := fun b hb => ⟨by rw [hC]; exact Nat.ne_of_lt (Nat.lt_succ_of_lt hb), Nat.ne_of_lt hb⟩
  have hDf : s₂.heap.objs.size ∉ fp := fun hm => Nat.lt_irrefl _ (hfp _ hm)
  have hCf : H2.objs.size ∉ fp := fun hm => by have := hfp _ hm; rw [hC] at this; exact Nat.lt_irrefl _ (Nat.lt_of_succ_lt this)
  have hDw : s₂.heap.objs.size ∉ wr := fun hm => hDf (W.sub _ hm)
  have hCw : H2.objs.size ∉ wr := fun hm => hCf (W.sub _ hm)
  have old : ∀ b o, s₂.heap.get? b = some o → h₁.get? b = some o := fun b o e => hsb₁.extBut b o (below b (Heap.lt_size e)).1 (Heap.get?_push_of_some _ (hH2 ▸ Heap.get?_push_of_some _ e))
  have hacc : h₁.get? s₂.heap.objs.size = some (lst []) := hsb₁.extBut _ _ hDC (Heap.get?_push_of_some _ (hH2 ▸ Heap.get?_push_size _ rfl))
  have hst₁ : St 0 h₁ := W.frame _ _ _ hst fun b _ o e => old b o e
  have fresh : ∀ a, s₂.heap.objs.size ≤ a → s₂.heap.get? a = none := fun a ha => by
    cases e : s₂.heap.get? a with
    | none => rfl
    | some o' => exact absurd (Heap.lt_size e) (Nat.not_lt.mpr ha)
  have fresh₀ : ∀ a, s₂.heap.objs.size ≤ a → h₀.get? a = none := fun a ha => by
    cases e : h₀.get? a with
    | none => rfl
    | some o' => have := F.keep a o' e; rw [fresh a ha] at this; cases this
  have hD₀ : h₀.get? s₂.heap.objs.size = none := fresh₀ _ (Nat.le_refl _)
  have hC₀ : h₀.get? H2.objs.size = none := fresh₀ _ (by rw [hC]; exact Nat.le_succ _)
  have hLlt : L < s₂.heap.objs.size := F.ns.lt
  have hDL : s₂.heap.objs.size ≠ L := Ne.symm (below L hLlt).2
  have hCL : H2.objs.size ≠ L := Ne.symm (below L hLlt).1
  have hNlt : ∀ p ∈ news, p.1 < s₂.heap.objs.size := fun p hp => Heap.lt_size (N p hp).1
  have frB : ∀ {h h' : Heap}, Fr h₀ L h m → (∀ b o, b ∉ wr → h.get? b = some o → h'.get? b = some o) → Fr h₀ L h' m := fun F hk =>
    ⟨F.ns.at' fun o e => hk L o hwL e, fun b o e => hk b o (fun hm => by rw [hw₀ b hm] at e; cases e) (F.keep b o e), F.above⟩
  have nwB : ∀ {h h' : Heap} {l : List (Addr × Obj)}, News h₀ L h l → (∀ b o, b ∉ wr → h.get? b = some o → h'.get? b = some o) → (∀ p ∈ l, p.1 ∉ wr) → News h₀ L h' l := fun N hk ho p hp => ⟨hk _ _ (ho p hp) (N p hp).1, (N p hp).2⟩
  have loop : ∀ s₃ : Shared, s₃ = { s₂ with heap := h₁, toks := s₂.toks + ([] : List (Str × Value)).length } →
      codeAny (model prog w) A (.compLoop (.ListComp elt [⟨.Tuple [.Name x px, .Name x₂ px₂] tk tp, iter, [], 0⟩] scope pos) 0 (.ref I) (.ref s₂.heap.objs.size) (compEnvC scope cl H2.objs.size env))
        (RR (.ref s₂.heap.objs.size) H2.objs.size) s₃ := by
    rintro s₃ rfl
    refine LCp.codeAny_compLoop_pair
      (ZInv h₀ L m s₂ s₂.heap.objs.size H2.objs.size n St Fv news) ?_ (n + 1)
      ⟨h₁, _, 0, [], _, rfl, Nat.zero_le _, rfl, rfl, hst₁, F.keeps old, hns₁, fun p hp => ?_, fun j y hy => by simp at hy⟩
    · rintro k s' ⟨h', tk, i, ys, m', rfl, hi, rfl, hyl, hst', F', hn', N', hF⟩
      have offD : ∀ p ∈ (s₂.heap.objs.size, lst ys) :: news, p.1 ∉ wr := fun p hp => by
        rcases List.mem_cons.mp hp with rfl | hp
        · exact hDw
        · exact off p hp
      by_cases hlt : i < n
      · refine W.item i _ _ _ hlt hst' fun T vals h₂ tk₂ hPv hT hMid hk₂ => ?_
        obtain ⟨v₁, v₂, rfl, hPt⟩ := hP i vals hPv
        have hTw := W.apart i T _ hMid
        refine W.go _ _ _ i T _ _ _ hMid fun h₃ hst₃ hk₃ => ?_
        have F₃ := frB (frB F' hk₂) hk₃
        have N₃ := nwB (nwB N' hk₂ offD) hk₃ offD
        have hn₃ : h₃.Ns H2.objs.size m' := (hn'.at' fun o e => hk₂ _ o hCw e).at' fun o e => hk₃ _ o hCw e
        have hT₃ : IsTup h₃ T #[v₁, v₂] := hT.at fun o e => hk₃ T o hTw e
        refine assign_Tuple_tuple hh hT₃ rfl rfl fun h₅ he => ?_
        have he' : ∀ b o, h₃.get? b = some o → h₅.get? b = some o := fun b o e => he b o (Nat.ne_of_lt (Heap.lt_size e)) e
        refine assignInOrder_cons (wpAny_assign_Name (wpAny_storeName_local (lookup_relabel_local hx) (hn₃.at' fun o e => he' _ o e) (fun h₆ hn₆ hs₆ => ?_) (by simp [compEnvC, relabel, hkind])))
        refine assignInOrder_cons (wpAny_assign_Name (wpAny_storeName_local (lookup_relabel_local hx₂) hn₆ (fun h₇ hn₇ hs₇ => ?_) (by simp [compEnvC, relabel, hkind])))
        refine assignInOrder_nil ?_
        have old7 : ∀ b o, b ≠ H2.objs.size → h₃.get? b = some o → h₇.get? b = some o := fun b o hb e => hs₇.extBut b o hb (hs₆.extBut b o hb (he' b o e))
        have hst₇ : St (i + 1) h₇ := W.frame _ _ _ hst₃ fun b hb o e => old7 b o (fun q => hCf (by rw [← q]; exact hb)) e
        have F₇ : Fr h₀ L h₇ m := ((F₃.keeps he').change hs₆ hCL hC₀).change hs₇ hCL hC₀
        have N₇ : News h₀ L h₇ ((s₂.heap.objs.size, lst ys) :: news) := fun p hp => by
          have z := N₃ p hp
          refine ⟨old7 _ _ ?_ z.1, z.2⟩
          rcases List.mem_cons.mp hp with rfl | hp
          · exact hDC
          · exact (below _ (hNlt p hp)).1
        refine turn i v₁ v₂ _ _ _ _ _ hPt hn₇ (by simp [hxx]) (by simp) fun y tk₇ hy => ?_
        have zD := (N₇ (s₂.heap.objs.size, lst ys) List.mem_cons_self).1
        refine append_at (hsz := by show ys.toArray.size ≤ sizeLine; rw [List.size_toArray, hyl]; exact Nat.le_trans hi hsz) zD fun h₈ hs₈ hD₈ => ?_
        refine ⟨n + 1 - (i + 1), by omega, h₈, tk₇, i + 1, ys ++ [y], _, rfl, hlt, rfl, by rw [List.length_append, List.length_singleton, hyl], W.frame _ _ _ hst₇ fun b hb o e => hs₈.extBut b o (fun q => hDf (q ▸ hb)) e, F₇.change hs₈ hDL hD₀,
          hn₇.sameBut hs₈ (Ne.symm hDC), fun p hp => ?_, fun j z hz => ?_⟩
        · rcases List.mem_cons.mp hp with rfl | hp
          · exact ⟨hD₈.trans (congrArg some (lst_snoc ys y)), hDL, hD₀⟩
          · exact ⟨hs₈.extBut _ _ (below _ (hNlt p hp)).2 (N₇ p (List.mem_cons_of_mem _ hp)).1, (N₇ p (List.mem_cons_of_mem _ hp)).2⟩
        · by_cases hj : j < ys.length
          · rw [List.getElem?_append_left hj] at hz
            exact hF j z hz
          · rw [List.getElem?_append_right (by omega)] at hz
            have hj0 : j - ys.length = 0 := by
              rcases Nat.eq_zero_or_pos (j - ys.length) with e | e
              · exact e
              · rw [List.getElem?_eq_none (by simp; omega)] at hz; cases hz
            rw [hj0] at hz
            have e : y = z := by simpa using hz
            subst e
            have hji : j = i := by omega
            rw [hji]; exact hy
      · obtain rfl : i = n := Nat.le_antisymm hi (Nat.not_lt.mp hlt)
        refine W.done _ _ _ hst' fun h₂ tk₂ hk₂ => ?_
        exact hRR _ _ h₂ tk₂ _ ys (frB F' hk₂) (nwB N' hk₂ offD) (hn'.at' fun o e => hk₂ _ o hCw e) hC₀ hD₀ hCL hDL (Ne.symm hDC) (fun p hp => (below _ (hNlt p hp)).1) hNlt hyl hF
    · rcases List.mem_cons.mp hp with rfl | hp
      · exact ⟨hacc, hDL, hD₀⟩
      · exact ⟨old _ _ (N p hp).1, (N p hp).2⟩
  exact codeAny_compStart_list (loop _ rfl) (W.self 0 _ _ _ hst₁ (loop _ rfl))
theorem zlt {I n l1 l2 b : Nat} (h : I + 5 ≤ n) (h1 : l1 < I) (h2 : l2 < I) (hb : b = I + 4 ∨ b = I + 2 ∨ b = I + 3 ∨ b = I ∨ b = I + 1 ∨ b = l1 ∨ b = l2) : b < n := by omega
theorem zno {I l : Nat} (h : l < I) (hb : l = I + 4 ∨ l = I + 3 ∨ l = I ∨ l = I + 1) : False := by omega
inductive ZSrc (prog : Program) (w : World) (A : Around) (h₀ : Heap) (L : Addr) (m : Str → Option Value) (env : Env) (elt : Expr) (x x₂ : Str) (scope : Scope) (cl : List (Str × Addr)) (y : Str) (Q : Flow → Shared → Prop) (xv : Value) (s₁ : Shared) : Prop
  | mk (I l1 l2 : Addr) (xs ys : List Value) (as bs : List Int) (news : List (Addr × Obj)) (e : xv = .ref (I + 4)) (hh : A.handled = none) (F : Fr h₀ L s₁.heap m) (N : News h₀ L s₁.heap news) (hi1 : IntsAre xs as) (hi2 : IntsAre ys bs) (hlen : as.length ≤ 1000) (hLI : L < I) (hnI : ∀ p ∈ news, p.1 < I) (hfr : ∀ b, I ≤ b → h₀.get? b = none) (hlt1 : l1 < I) (hlt2 : l2 < I) (hsz : I + 5 ≤ s₁.heap.objs.size)
    (hz : IsZip s₁.heap (I + 4) (I + 2) (I + 3) .none) (hTI : IsPair s₁.heap (I + 2) (.ref I) (.ref (I + 1))) (hTO : IsPair s₁.heap (I + 3) .none .none) (hit1 : s₁.heap.IsListIter I l1 0) (hit2 : s₁.heap.IsListIter (I + 1) l2 0) (hl1 : s₁.heap.IsList l1 xs.toArray) (hl2 : s₁.heap.IsList l2 ys.toArray)
    (turn : ZTurn prog w A env elt x x₂ scope cl)
    (fin : ∀ D h tk out, Fr h₀ L h (fun z => if z = y then some (.ref D) else m z) → News h₀ L h ((D, lst out) :: news) → (∀ p ∈ news, p.1 < D) → IntsAre out (List.zipWith (· + ·) as bs) → Q .next { s₁ with heap := h, toks := tk }) : ZSrc prog w A h₀ L m env elt x x₂ scope cl y Q xv s₁
theorem zip_src {elt : Expr} {x x₂ : Str} {scope : Scope} {cl : List (Str × Addr)} {y : Str} {Q : Flow → Shared → Prop} {l1 l2 : Addr} {xs ys : List Value} {as bs : List Int} {n1 n2 : Nat} {news : List (Addr × Obj)}
    (hh : A.handled = none) (F : Fr h₀ L s.heap m) (N : News h₀ L s.heap news) (hm1 : (l1, listOf xs.toArray n1) ∈ news) (hm2 : (l2, listOf ys.toArray n2) ∈ news) (hi1 : IntsAre xs as) (hi2 : IntsAre ys bs) (hlen : as.length ≤ 1000)
    (turn : ZTurn prog w A env elt x x₂ scope cl)
    (fin : ∀ D h tk out, Fr h₀ L h (fun z => if z = y then some (.ref D) else m z) → News h₀ L h ((D, lst out) :: news) → (∀ p ∈ news, p.1 < D) → IntsAre out (List.zipWith (· + ·) as bs) → Q .next { s with heap := h, toks := tk }) :
    wpAny (model prog w) A (call (.type "zip") [.ref l1, .ref l2]) (fun xv s₁ => ZSrc prog w A h₀ L m env elt x x₂ scope cl y Q xv s₁) E s := by
  have hl1 := News.isList N hm1
  have hl2 := News.isList N hm2
  refine call_zip_2 hl1 hl2 fun h' hz hTI hTO hi1' hi2' hsz hk => ?_
  exact ⟨s.heap.objs.size, l1, l2, xs, ys, as, bs, news, rfl, hh, F.keeps hk, N.grown hk, hi1, hi2, hlen, F.ns.lt, fun p hp => Heap.lt_size (N p hp).1, fun b hb => ktu_new F hb, Heap.lt_size (N _ hm1).1, Heap.lt_size (N _ hm2).1, Nat.le_of_eq hsz.symm,
    hz, hTI, hTO, hi1', hi2', hl1.at fun o e => hk l1 o e, hl2.at fun o e => hk l2 o e, turn, fin⟩
theorem Assign_zip {elt iter : Expr} {x x₂ y : Str} {px px₂ tp py : Pos} {tk} {scope : Scope} {cl : List (Str × Addr)} {pos spos : Pos} {Q : Flow → Shared → Prop} (_F₀ : Fr h₀ L s.heap m) (hLe : env.locals = L)
    (hsw : swapsWith (.ListComp elt [⟨.Tuple [.Name x px, .Name x₂ px₂] tk tp, iter, [], 0⟩] scope pos) (some (.Name y py)) spos.line env = pure true)
    (hclos : closureFor scope env = pure cl) (hcell : ∀ z ∈ scope.names, z.2 ≠ .cell) (hkind : scope.kind = .function)
    (hnames : ∀ z ∈ scope.names, z.2 = .local → scope.names.lookup z.1 = some .local) (hx : scope.names.lookup x = some .local) (hx₂ : scope.names.lookup x₂ = some .local) (hxx : x ≠ x₂)
    (hy : env.kindOf y = some .local) (hp : (env.scope.kind == .class || (env.scope.kind == .module && env.locals != env.globals)) = false)
    (h : wpAny (model prog w) A (eval iter env) (fun xv s₁ => ZSrc prog w A h₀ L m env elt x x₂ scope cl y Q xv s₁) E s)
    (hs : ∀ x, foldedSetIterable iter env x = pure x := by intro _; rfl) :
    wpAny (model prog w) A (exec (.Assign [.Name y py] (.ListComp elt [⟨.Tuple [.Name x px, .Name x₂ px₂] tk tp, iter, [], 0⟩] scope pos) spos) env) Q E s := by
  subst hLe
  rw [exec_Assign_Name_used _ _ _ _ hsw]
  refine wpAny_bind (wpAny_standAt (wpAny_bind ?_))
  show wpAny _ A (do let _ ← comprehension (.ListComp elt [⟨.Tuple [.Name x px, .Name x₂ px₂] tk tp, iter, [], 0⟩] scope pos) scope env _ (newList []) false (eval iter env) (some (assign (.Name y py) env))) _ _ s
  refine wpAny_bind (wpAny_mono (wpAny_comprehension_free (use := some (assign (.Name y py) env)) (Q := fun _ s' => Q .next s') rfl hs hclos hkind hnames
    (wpAny_mono h (fun xv s₁ h₁ => ?_) fun _ _ e => e)) (fun _ s' hq => wpAny_pure (wpAny_pure hq)) fun _ _ e => e)
  obtain ⟨I, l1, l2, xs, ys, as, bs, news, rfl, hh, F, N, hi1, hi2, hlen, hLI, hnI, hfr, hlt1, hlt2, hsz, hz, hTI, hTO, hit1, hit2, hl1, hl2, turn, fin⟩ := h₁
  have D' : ZipApart (I + 4) (I + 2) (I + 3) I (I + 1) l1 l2 := ktu_apart _ _ _ hlt1 hlt2
  have e1 := hi1.length
  have e2 := hi2.length
  refine wpAny_pyIter_zip hz ?_
  refine block_Z (news := news) (Pt := fun i v₁ v₂ => ∃ a b ta tb, v₁ = .int a ta ∧ v₂ = .int b tb ∧ (List.zipWith (· + ·) as bs)[i]? = some (a + b)) (Fv := fun i v => ∃ t z, v = .int z t ∧ (List.zipWith (· + ·) as bs)[i]? = some z)
    (WalksT.zip2 hh _ _ _ _ _ _ _ D' xs.toArray ys.toArray).toU ?_ ?_ hcell hkind hx hx₂ hxx hh ⟨hz, hTI, ⟨_, _, hTO⟩, hit1, hit2, hl1, hl2⟩ ?_ F N ?_ ?_ ?_ ?_ ?_
  · rintro i vals ⟨v₁, v₂, h1, h2, rfl⟩
    obtain ⟨a, ta, rfl, ha⟩ := hi1.at i v₁ (by simpa using h1)
    obtain ⟨b, tb, rfl, hb⟩ := hi2.at i v₂ (by simpa using h2)
    exact ⟨_, _, rfl, a, b, ta, tb, rfl, rfl, by rw [List.getElem?_zipWith, ha, hb]⟩
  · rw [List.size_toArray, List.size_toArray, sizeLine_eq]
    omega
  · intro b hb
    have hb' : b = I + 4 ∨ b = I + 2 ∨ b = I + 3 ∨ b = I ∨ b = I + 1 ∨ b = l1 ∨ b = l2 := by simpa using hb
    exact zlt hsz hlt1 hlt2 hb'
  · intro hb
    have hb' : env.locals = I + 4 ∨ env.locals = I + 3 ∨ env.locals = I ∨ env.locals = I + 1 := by simpa using hb
    exact zno hLI hb'
  · intro b hb
    have hb' : b = I + 4 ∨ b = I + 3 ∨ b = I ∨ b = I + 1 := by simpa using hb
    rcases hb' with rfl | rfl | rfl | rfl
    · exact hfr _ (Nat.le_add_right _ _)
    · exact hfr _ (Nat.le_add_right _ _)
    · exact hfr _ (Nat.le_refl _)
    · exact hfr _ (Nat.le_add_right _ _)
  · intro p hp hb
    have hb' : p.1 = I + 4 ∨ p.1 = I + 3 ∨ p.1 = I ∨ p.1 = I + 1 := by simpa using hb
    exact zno (hnI p hp) hb'
  · rintro i v₁ v₂ C m₂ s' Q' E' ⟨a, b, ta, tb, rfl, rfl, hab⟩ hn hx1 hx2 hQ
    exact turn a b ta tb C m₂ s' Q' E' hn hx1 hx2 fun t tk => hQ _ tk ⟨t, _, rfl, hab⟩
  · intro D C h' tk m' out F' N' hn hC₀ hD₀ hCL hDL hCD offC hlt hlen' hF
    show wpAny _ A (assign (.Name y py) env (.ref D)) _ _ _
    refine wpAny_assign_Name (wpAny_storeName_local hy F'.ns (fun h₂ hn₂ hs₂ => ?_) hp)
    have hL₀ : h₀.get? env.locals = none := Heap.get?_none_of_le F'.above
    have F₂ : Fr h₀ env.locals h₂ (fun z => if z = y then some (.ref D) else m z) := ⟨hn₂, fun b o e => hs₂.extBut b o (fun q => by rw [q, hL₀] at e; cases e) (F'.keep b o e), F'.above⟩
    refine ⟨m', hn.sameBut hs₂ hCL, fun h'' hs'' => fin D h'' _ out (F₂.change hs'' hCL hC₀) (fun p hp => ?_) hlt (ints_pt ?_ fun j v hj => ?_)⟩
    · have z : h₂.get? p.1 = some p.2 := hs₂.extBut _ _ (N' p hp).2.1 (N' p hp).1
      refine ⟨hs''.extBut _ _ ?_ z, (N' p hp).2⟩
      rcases List.mem_cons.mp hp with rfl | hp
      · exact Ne.symm hCD
      · exact offC p hp
    · rw [hlen', List.length_zipWith, List.size_toArray, List.size_toArray, e1, e2]
    · obtain ⟨t, z, e, hz⟩ := hF j v hj
      exact ⟨t, z, hz, e⟩
end
end
section
open PySem PySem.W PySem.Spec PySem.Calls PyProof.Rows PyProof.V
open LCg
noncomputable def CEnd (h₀ : Heap) (L : Addr) (m : Str → Option Value) (s₁ : Shared) (led : List (Addr × Obj)) (P : Prop) (s₂ : Shared) : Prop :=
  ∃ h' tk, s₂ = { s₁ with heap := h', toks := tk } ∧ Fr h₀ L h' m ∧ News h₀ L h' led ∧ P
noncomputable def CTurn (prog : Program) (w : World) (A : Around) (h₀ : Heap) (L : Addr) (m : Str → Option Value) (env : Env) (ct elt : Expr) (x : Str) (scope : Scope) (cl : List (Str × Addr)) (s₂ : Shared) (I : Addr) (n : Nat) (a : Int) (news : List (Addr × Obj)) (J : Nat → List Value → Prop) : Prop :=
  ∀ i ys, i < n → J i ys → ∀ t oI C oC K oK D m₂ h tk (E' : Value → Shared → Prop), NsObj oC m₂ → oK.data = .cell (some (.int (a + (i : Int)) t)) → Fr h₀ L h m → News h₀ L h ((I, oI) :: (C, oC) :: (K, oK) :: (D, lst ys) :: news) → ((@LT.lt Nat _ I D) ∧ (@LT.lt Nat _ D C) ∧ (@LT.lt Nat _ C K)) →
      wpAny (model prog w) A (isTrue ct (compEnvC scope ((x, K) :: cl) C env) (eval ct (compEnvC scope ((x, K) :: cl) C env))) (fun ok s' => if ok = true then
        wpAny (model prog w) A (eval elt (compEnvC scope ((x, K) :: cl) C env)) (fun y s₅ => CEnd h₀ L m { s₂ with heap := h, toks := tk } ((I, oI) :: (C, oC) :: (K, oK) :: (D, lst ys) :: news) (J (i + 1) (ys ++ [y])) s₅) E' s'
        else CEnd h₀ L m { s₂ with heap := h, toks := tk } ((I, oI) :: (C, oC) :: (K, oK) :: (D, lst ys) :: news) (J (i + 1) ys) s') E' { s₂ with heap := h, toks := tk }
inductive CInv (h₀ : Heap) (L : Addr) (m : Str → Option Value) (s₂ : Shared) (I D C : Addr) (n : Nat) (a : Int) (news : List (Addr × Obj)) (J : Nat → List Value → Prop) (k : Nat) (s' : Shared) : Prop
  | mk (h' : Heap) (tk i : Nat) (ys : List Value) (m' : Str → Option Value) (v₀ : Option Value) (e : s' = { s₂ with heap := h', toks := tk }) (hi : i ≤ n) (hk : k = n + 1 - i) (hl : ys.length ≤ i) (st : IsRangeIter h' I (a + (i : Nat) * 1) ((n : Int) - (i : Nat)) 1) (F : Fr h₀ L h' m) (hn : h'.Ns C m') (N : News h₀ L h' ((D, lst ys) :: news)) (hc : h'.IsCell (C + 1) v₀) (hJ : J i ys) : CInv h₀ L m s₂ I D C n a news J k s'
section
variable {prog : Program} {w : World} {A : Around} {E : Value → Shared → Prop} {s : Shared} {h₀ : Heap} {L : Addr} {m : Str → Option Value} {env : Env}
/-- a new block with one cell -/
theorem env_one {M : Model} {scope : Scope} {globals : Addr} {cl : List (Str × Addr)} {qual : Str} {func : Option Addr} {code : Value} {outer : Env} {builtins : Addr} {x : Str} {Q : Env → Shared → Prop}
    (h1 : ∀ k, cellsFrom k scope.names cl = (x, k) :: cl) (h2 : ∀ h, pushCells h scope.names = h.push { cls := .type "cell", data := .cell none })
    (hQ : Q (newEnv scope s.heap.objs.size globals ((x, s.heap.objs.size + 1) :: cl) qual func code (some outer) builtins)
      { s with heap := (s.heap.push { cls := .type "dict", data := .dict #[] }).push { cls := .type "cell", data := .cell none } }) :
    wpAny M A (newFunctionEnv scope globals cl [] qual func code (some outer) builtins) Q E s := by
  simp only [newFunctionEnv, Option.isSome_some, if_true]
  refine wpAny_bind (wpAny_alloc ?_)
  refine wpAny_bind (wpAny_layCells _ (fun name kind cells => by cases kind == NameKind.cell <;> simp) _ _ _ _ ?_)
  rw [show ({ s with heap := s.heap.push { cls := .type "dict", data := .dict #[] } } : Shared).heap.objs.size = s.heap.objs.size + 1 from Heap.size_push .., h1, h2]
  refine wpAny_bind ?_
  rw [List.forIn_nil]
  exact wpAny_pure (wpAny_pure hQ)

theorem block_C {ct elt iter : Expr} {x : Str} {px : Pos} {scope : Scope} {cl : List (Str × Addr)} {pos : Pos} {s₂ : Shared} {I : Addr} {n : Nat} {a : Int} {news : List (Addr × Obj)} {J : Nat → List Value → Prop}
    {RR : Value → Addr → Result → Shared → Prop} (hh : A.handled = none) (hsz : n ≤ sizeLine)
    (h1 : ∀ k, cellsFrom k scope.names cl = (x, k) :: cl) (h2 : ∀ h, pushCells h scope.names = h.push { cls := .type "cell", data := .cell none })
    (hkind : scope.kind = .function) (hx : ∀ C K, Env.kindOf (compEnvC scope ((x, K) :: cl) C env) x = some .cell) (hst : IsRangeIter s₂.heap I (a + ((0 : Nat) : Int) * 1) ((n : Int) - ((0 : Nat) : Int)) 1)
    (F : Fr h₀ L s₂.heap m) (N : News h₀ L s₂.heap news) (hLI : L < I) (hI₀ : h₀.get? I = none) (hlt : ∀ p ∈ news, p.1 < I) (hJ : J 0 [])
    (turn : CTurn prog w A h₀ L m env ct elt x scope cl s₂ I n a news J)
    (hRR : ∀ D C h tk m' ys, Fr h₀ L h m → News h₀ L h ((D, lst ys) :: news) → h.Ns C m' → h₀.get? C = none → h₀.get? D = none → C ≠ L → D ≠ L → C ≠ D → (∀ p ∈ news, p.1 ≠ C) → (∀ p ∈ news, p.1 < D) → J n ys → RR (.ref D) C (.ok .next) { s₂ with heap := h, toks := tk }) :
    wpAny (model prog w) A (newList []) (fun acc s₃ => wpAny (model prog w) A (newFunctionEnv scope env.globals cl [] env.qual none .none (some env)) (fun cenv s₄ =>
      codeAny (model prog w) A (.compStart (.ListComp elt [⟨.Name x px, iter, [ct], 0⟩] scope pos) 0 (.ref I) acc { cenv with scope := relabel scope env }) (RR acc cenv.locals) s₄) E s₃) E s₂ := by
  have hIs : I < s₂.heap.objs.size := Heap.lt_size hst
  refine wpAny_newObj_type (env_one h1 h2 ?_)
  generalize hH2 : s₂.heap.push { cls := .type "list", dict := none, data := .seq ([] : List Value).toArray } = H2
  have hC : H2.objs.size = s₂.heap.objs.size + 1 := by rw [← hH2, Heap.size_push]
  generalize hH3 : (H2.push { cls := .type "dict", data := .dict #[] }).push { cls := .type "cell", data := .cell none } = H3
  have hlist : H2.get? s₂.heap.objs.size = some (lst []) := by rw [← hH2]; exact Heap.get?_push_size _ rfl
  have k23 : ∀ b o, H2.get? b = some o → H3.get? b = some o := fun b o e => by rw [← hH3]; exact Heap.get?_push_of_some _ (Heap.get?_push_of_some _ e)
  have old : ∀ b o, s₂.heap.get? b = some o → H3.get? b = some o := fun b o e => k23 b o (by rw [← hH2]; exact Heap.get?_push_of_some _ e)
  have hns : H3.Ns H2.objs.size (fun _ => none) := by
    rw [← hH3]
    exact (Heap.Ns.new H2 (.type "dict")).keeps fun b o e => Heap.get?_push_of_some _ e
  have hcell : H3.get? (H2.objs.size + 1) = some { cls := .type "cell", data := .cell none } := by
    rw [← hH3]
    have : (H2.push { cls := .type "dict", data := .dict #[] }).objs.size = H2.objs.size + 1 := Heap.size_push ..
    rw [← this]
    exact Heap.get?_push_size _ rfl
  have hDC : s₂.heap.objs.size ≠ H2.objs.size := by rw [hC]; exact Nat.ne_of_lt (Nat.lt_succ_self _)
  have hDlC : s₂.heap.objs.size < H2.objs.size := by rw [hC]; exact Nat.lt_succ_self _
  have hDK : s₂.heap.objs.size ≠ H2.objs.size + 1 := Nat.ne_of_lt (Nat.lt_succ_of_lt hDlC)
  have hCK : H2.objs.size ≠ H2.objs.size + 1 := Nat.ne_of_lt (Nat.lt_succ_self _)
  have below : ∀ b, b < s₂.heap.objs.size → b ≠ H2.objs.size ∧ b ≠ s₂.heap.objs.size ∧ b ≠ H2.objs.size + 1 := fun b hb => ⟨Nat.ne_of_lt (Nat.lt_trans hb hDlC), Nat.ne_of_lt hb, Nat.ne_of_lt (Nat.lt_succ_of_lt (Nat.lt_trans hb hDlC))⟩
  have fresh : ∀ a, s₂.heap.objs.size ≤ a → s₂.heap.get? a = none := fun a ha => by
    cases e : s₂.heap.get? a with
    | none => rfl
    | some o' => exact absurd (Heap.lt_size e) (Nat.not_lt.mpr ha)
  have fresh₀ : ∀ a, s₂.heap.objs.size ≤ a → h₀.get? a = none := fun a ha => by
    cases e : h₀.get? a with
    | none => rfl
    | some o' => have := F.keep a o' e; rw [fresh a ha] at this; cases this
  have hD₀ : h₀.get? s₂.heap.objs.size = none := fresh₀ _ (Nat.le_refl _)
  have hC₀ : h₀.get? H2.objs.size = none := fresh₀ _ (Nat.le_of_lt hDlC)
  have hK₀ : h₀.get? (H2.objs.size + 1) = none := fresh₀ _ (Nat.le_succ_of_le (Nat.le_of_lt hDlC))
  have hLlt : L < s₂.heap.objs.size := F.ns.lt
  have hDL : s₂.heap.objs.size ≠ L := Ne.symm (below L hLlt).2.1
  have hCL : H2.objs.size ≠ L := Ne.symm (below L hLlt).1
  have hKL : H2.objs.size + 1 ≠ L := Ne.symm (below L hLlt).2.2
  have hIb := below I hIs
  have hNlt : ∀ p ∈ news, p.1 < s₂.heap.objs.size := fun p hp => Heap.lt_size (N p hp).1
  have W := range_walks (prog := prog) (w := w) (A := A) (I := I) hh a n
  have loop : ∀ s₃ : Shared, s₃ = { s₂ with heap := H3 } →
      codeAny (model prog w) A (.compLoop (.ListComp elt [⟨.Name x px, iter, [ct], 0⟩] scope pos) 0 (.ref I) (.ref s₂.heap.objs.size) (compEnvC scope ((x, H2.objs.size + 1) :: cl) H2.objs.size env))
        (RR (.ref s₂.heap.objs.size) H2.objs.size) s₃ := by
    rintro s₃ rfl
    refine codeAny_compLoop_tests
      (CInv h₀ L m s₂ I s₂.heap.objs.size H2.objs.size n a news J) ?_ (n + 1)
      ⟨H3, _, 0, [], _, none, rfl, Nat.zero_le _, rfl, Nat.le_refl _, old _ _ hst, F.keeps old, hns, fun p hp => ?_, ⟨_, hcell, rfl⟩, hJ⟩
    · rintro k s' ⟨h', tk, i, ys, m', v₀, rfl, hi, rfl, hyl, hst', F', hn', N', hc', hJ'⟩
      by_cases hlt' : i < n
      · refine W.item i _ _ _ hlt' hst' fun v h₂ tk₂ hPv hst₂ hk₂ => ?_
        obtain ⟨t, rfl⟩ := hPv
        have hc₂ : h₂.IsCell (H2.objs.size + 1) v₀ := by
          obtain ⟨o, e, d⟩ := hc'
          exact ⟨o, hk₂ _ _ (by simpa using Ne.symm hIb.2.2) e, d⟩
        refine wpAny_assign_Name (wpAny_storeName_cell (c := H2.objs.size + 1) (v₀ := v₀) hkind (hx _ _) (by simp [compEnvC]) hc₂ fun h₃ hc₃ hs₃ => ?_)
        refine wpAny_tests_one ?_
        have k3 : ∀ b o, b ≠ H2.objs.size + 1 → h₂.get? b = some o → h₃.get? b = some o := fun b o hb e => hs₃.extBut b o hb e
        obtain ⟨oK, heK, hdK⟩ := hc₃
        have hst₃ : IsRangeIter h₃ I (a + ((i + 1 : Nat) : Int) * 1) ((n : Int) - ((i + 1 : Nat) : Int)) 1 := k3 _ _ hIb.2.2 hst₂
        have hn₃ : h₃.Ns H2.objs.size m' := (hn'.at' fun o e => hk₂ _ o (by simpa using Ne.symm hIb.1) e).at' fun o e => k3 _ o hCK e
        obtain ⟨oC, heC, hoC⟩ := ns_obj hn₃
        have F₃ : Fr h₀ L h₃ m := (fr_but F' hk₂ (Nat.ne_of_lt hLI) hI₀).change hs₃ hKL hK₀
        have N₂ : News h₀ L h₂ ((s₂.heap.objs.size, lst ys) :: news) := news_but N' hk₂ fun p hp => by
          rcases List.mem_cons.mp hp with rfl | hp
          · exact Ne.symm hIb.2.1
          · exact Nat.ne_of_lt (hlt p hp)
        have N₃ : News h₀ L h₃ ((I, _) :: (H2.objs.size, oC) :: (H2.objs.size + 1, oK) :: (s₂.heap.objs.size, lst ys) :: news) := fun p hp => by
          rcases List.mem_cons.mp hp with rfl | hp
          · exact ⟨hst₃, Nat.ne_of_gt hLI, hI₀⟩
          rcases List.mem_cons.mp hp with rfl | hp
          · exact ⟨heC, hCL, hC₀⟩
          rcases List.mem_cons.mp hp with rfl | hp
          · exact ⟨heK, hKL, hK₀⟩
          have z := N₂ p hp
          refine ⟨k3 _ _ ?_ z.1, z.2⟩
          rcases List.mem_cons.mp hp with rfl | hp
          · exact hDK
          · exact (below _ (hNlt p hp)).2.2
        have fin : ∀ (h₄ : Heap) (ys' : List Value), Fr h₀ L h₄ m → News h₀ L h₄ ((I, _) :: (H2.objs.size, oC) :: (H2.objs.size + 1, oK) :: (s₂.heap.objs.size, lst ys) :: news) → IsRangeIter h₄ I (a + ((i + 1 : Nat) : Int) * 1) ((n : Int) - ((i + 1 : Nat) : Int)) 1 ∧ h₄.Ns H2.objs.size m' ∧ h₄.IsCell (H2.objs.size + 1) (some (.int (a + (i : Int)) t)) :=
          fun h₄ _ _ N₄ => ⟨(N₄ _ (.head _)).1, hoC.ns (N₄ _ (.tail _ (.head _))).1, ⟨oK, (N₄ _ (.tail _ (.tail _ (.head _)))).1, hdK⟩⟩
        refine wpAny_mono (turn i ys hlt' hJ' t _ H2.objs.size oC (H2.objs.size + 1) oK s₂.heap.objs.size _ h₃ _ _ hoC hdK F₃ N₃ ⟨hIs, hDlC, Nat.lt_succ_self _⟩) (fun ok s₄ h₄ => ?_) fun _ _ e => e
        cases ok with
        | true =>
          simp only [if_true] at h₄ ⊢
          refine wpAny_mono h₄ (fun y s₅ h₅ => ?_) fun _ _ e => e
          obtain ⟨h₄, tk₄, rfl, F₄, N₄, hJ₄⟩ := h₅
          obtain ⟨q1, q2, q3⟩ := fin h₄ ys F₄ N₄
          have zD := (N₄ (s₂.heap.objs.size, lst ys) (.tail _ (.tail _ (.tail _ (.head _))))).1
          refine append_at (hsz := by show ys.toArray.size ≤ sizeLine; rw [List.size_toArray]; exact Nat.le_trans (Nat.le_trans hyl hi) hsz) zD fun h₅ hs₅ hD₅ => ?_
          refine ⟨n + 1 - (i + 1), by omega, h₅, tk₄, i + 1, ys ++ [y], _, some (.int (a + (i : Int)) t), rfl, hlt', rfl, by rw [List.length_append, List.length_singleton]; exact Nat.succ_le_succ hyl, hs₅.extBut _ _ hIb.2.1 q1, F₄.change hs₅ hDL hD₀, q2.sameBut hs₅ (Ne.symm hDC), fun p hp => ?_, ?_, hJ₄⟩
          · rcases List.mem_cons.mp hp with rfl | hp
            · exact ⟨hD₅.trans (congrArg some (lst_snoc ys y)), hDL, hD₀⟩
            · exact ⟨hs₅.extBut _ _ (below _ (hNlt p hp)).2.1 (N₄ p (.tail _ (.tail _ (.tail _ (.tail _ hp))))).1, (N₄ p (.tail _ (.tail _ (.tail _ (.tail _ hp))))).2⟩
          · obtain ⟨o, e, d⟩ := q3
            exact ⟨o, hs₅.extBut _ _ (Ne.symm hDK) e, d⟩
        | false =>
          simp only [Bool.false_eq_true, if_false] at h₄ ⊢
          obtain ⟨h₄, tk₄, rfl, F₄, N₄, hJ₄⟩ := h₄
          obtain ⟨q1, q2, q3⟩ := fin h₄ ys F₄ N₄
          exact ⟨n + 1 - (i + 1), by omega, h₄, tk₄, i + 1, ys, _, some (.int (a + (i : Int)) t), rfl, hlt', rfl, Nat.le_succ_of_le hyl, q1, F₄, q2, fun p hp => N₄ p (.tail _ (.tail _ (.tail _ hp))), q3, hJ₄⟩
      · obtain rfl : i = n := Nat.le_antisymm hi (Nat.not_lt.mp hlt')
        refine W.done _ _ _ hst' fun h₂ tk₂ hk₂ => ?_
        exact hRR _ _ h₂ tk₂ _ ys (fr_but F' hk₂ (Nat.ne_of_lt hLI) hI₀) (news_but N' hk₂ fun p hp => by
          rcases List.mem_cons.mp hp with rfl | hp
          · exact Ne.symm hIb.2.1
          · exact Nat.ne_of_lt (hlt p hp)) (hn'.at' fun o e => hk₂ _ o (by simpa using Ne.symm hIb.1) e) hC₀ hD₀ hCL hDL (Ne.symm hDC) (fun p hp => (below _ (hNlt p hp)).1) hNlt hJ'
    · rcases List.mem_cons.mp hp with rfl | hp
      · exact ⟨k23 _ _ hlist, hDL, hD₀⟩
      · exact ⟨old _ _ (N p hp).1, (N p hp).2⟩
  exact codeAny_compStart_list (loop _ rfl) (W.self 0 _ _ _ (old _ _ hst) (loop _ rfl))
inductive CSrc (prog : Program) (w : World) (A : Around) (h₀ : Heap) (L : Addr) (m : Str → Option Value) (env : Env) (ct elt : Expr) (x : Str) (scope : Scope) (cl : List (Str × Addr)) (Q : Value → Shared → Prop) (xv : Value) (s₁ : Shared) : Prop
  | mk (r : Addr) (a b : Int) (t u v : Tok) (n : Nat) (news : List (Addr × Obj)) (J : Nat → List Value → Prop) (e : xv = .ref r) (hh : A.handled = none) (F : Fr h₀ L s₁.heap m) (N : News h₀ L s₁.heap news) (hr : IsRange s₁.heap r a b 1 t u v) (hsm : Builtin.Range.small a b 1 = true) (hn : Builtin.Range.rangeSize a b 1 = ((n : Nat) : Int)) (hsz : n ≤ sizeLine) (hJ : J 0 [])
      (turn : ∀ g I, (∀ p ∈ news, p.1 < I) → CTurn prog w A h₀ L m env ct elt x scope cl { s₁ with heap := g } I n a news J)
      (fin : ∀ D h tk ys, Fr h₀ L h m → News h₀ L h ((D, lst ys) :: news) → (∀ p ∈ news, p.1 < D) → J n ys → Q (.ref D) { s₁ with heap := h, toks := tk }) : CSrc prog w A h₀ L m env ct elt x scope cl Q xv s₁
/-- a list comprehension over a range, whose name is a cell -/
theorem ListComp_C {ct elt iter : Expr} {x : Str} {px : Pos} {scope : Scope} {cl : List (Str × Addr)} {pos : Pos} {Q : Value → Shared → Prop} (_F₀ : Fr h₀ L s.heap m)
    (hclos : closureFor scope env = pure cl) (hkind : scope.kind = .function)
    (hnames : ∀ y ∈ scope.names, y.2 = .local → scope.names.lookup y.1 = some .local)
    (h1 : ∀ k, cellsFrom k scope.names cl = (x, k) :: cl) (h2 : ∀ h, pushCells h scope.names = h.push { cls := .type "cell", data := .cell none })
    (hx : ∀ C K, Env.kindOf (compEnvC scope ((x, K) :: cl) C env) x = some .cell)
    (h : wpAny (model prog w) A (eval iter env) (CSrc prog w A h₀ L m env ct elt x scope cl Q) E s)
    (hs : ∀ x, foldedSetIterable iter env x = pure x := by intro _; rfl) :
    wpAny (model prog w) A (eval (.ListComp elt [⟨.Name x px, iter, [ct], 0⟩] scope pos) env) Q E s := by
  rw [eval_ListComp]
  refine wpAny_comprehension_free (use := none) rfl hs hclos hkind hnames (wpAny_mono h (fun xv s₁ h₁ => ?_) fun _ _ e => e)
  obtain ⟨r, a, b, t, u, v, n, news, J, rfl, hh, F, N, hr, hsm, hn, hsz, hJ, turn, fin⟩ := h₁
  refine wpAny_pyIter_range hr hsm ?_
  have hlt : ∀ p ∈ news, p.1 < s₁.heap.objs.size := fun p hp => Heap.lt_size (N p hp).1
  refine block_C (news := news) (J := J) hh hsz h1 h2 hkind hx (by show IsRangeIter _ _ _ _ _; rw [hn]; simpa using Heap.get?_push_size _ rfl) (F.push _) (fun p hp => ⟨Heap.get?_push_of_some _ (N p hp).1, (N p hp).2⟩) F.ns.lt (next_is_new F) hlt hJ (turn _ _ hlt) ?_
  intro D C h' tk m' ys F' N' hn hC₀ hD₀ hCL hDL hCD offC hltD hJ'
  refine ⟨m', hn, fun h'' hs'' => fin D h'' tk ys (F'.change hs'' hCL hC₀) (fun p hp => ?_) hltD hJ'⟩
  refine ⟨hs''.extBut _ _ ?_ (N' p hp).1, (N' p hp).2⟩
  rcases List.mem_cons.mp hp with rfl | hp
  · exact Ne.symm hCD
  · exact offC p hp
end
end
section
open PySem PySem.W PySem.Spec PySem.Calls PyProof.Rows PyProof.V
open LCg LCt
noncomputable def TupAt (ax : Addr) (its : Array Value) (news : List (Addr × Obj)) : Prop := ∃ o, (ax, o) ∈ news ∧ o.cls = .type "tuple" ∧ ∃ n, o.data = .seq its n
section
variable {prog : Program} {w : World} {A : Around} {E : Value → Shared → Prop} {s : Shared} {h₀ : Heap} {L : Addr} {m : Str → Option Value} {env : Env}
theorem TupAt.tup {h : Heap} {ax : Addr} {its : Array Value} {news : List (Addr × Obj)} (x : TupAt ax its news) (N : News h₀ L h news) : h.IsTuple ax its := let ⟨o, hm, r⟩ := x; ⟨o, (N _ hm).1, r⟩
theorem tup_st {ax I : Addr} {its : Array Value} : ∀ i (h h' : Heap) (o : Obj) (nw : List (Addr × Obj)), (h.IsTupleIter I ax i ∧ h.IsTuple ax its) → h.get? I = some o → h'.get? I = some o → (∀ b o, h₀.get? b = some o → h'.get? b = some o) → News h₀ L h' nw → TupAt ax its nw → (h'.IsTupleIter I ax i ∧ h'.IsTuple ax its) :=
  fun i h h' o nw st e e' k N S => ⟨by obtain ⟨o', q, r⟩ := st.1; rw [e] at q; cases q; exact ⟨o, e', r⟩, S.tup N⟩
noncomputable def TSrcT (prog : Program) (w : World) (A : Around) (h₀ : Heap) (L : Addr) (m : Str → Option Value) (env : Env) (ct elt : Expr) (x : Str) (scope : Scope) (cl : List (Str × Addr)) (Fin : Shared → List Value → List (Addr × Obj) → Prop) (xv : Value) (s₁ : Shared) : Prop :=
  ∃ ax its news, xv = .ref ax ∧ A.handled = none ∧ Fr h₀ L s₁.heap m ∧ News h₀ L s₁.heap news ∧ TupAt ax its news ∧ its.size ≤ sizeLine ∧
    ∀ s₂ : Shared, (∃ h, s₂ = { s₁ with heap := h }) → CompRestT prog w A h₀ L m env ct elt x scope cl s₂ (TupAt ax its) (fun i v => its[i]? = some v) (Fin s₂) its.size 0 [] news
theorem ListComp_tup {ct elt iter : Expr} {x : Str} {px : Pos} {scope : Scope} {cl : List (Str × Addr)} {pos : Pos} {Q : Value → Shared → Prop} (F₀ : Fr h₀ L s.heap m)
    (hclos : closureFor scope env = pure cl) (hcell : ∀ y ∈ scope.names, y.2 ≠ .cell) (hkind : scope.kind = .function)
    (hnames : ∀ y ∈ scope.names, y.2 = .local → scope.names.lookup y.1 = some .local) (hx : scope.names.lookup x = some .local)
    (h : wpAny (model prog w) A (eval iter env) (TSrcT prog w A h₀ L m env ct elt x scope cl (fun s₂ => FinE h₀ L m s₂ Q)) E s)
    (hs : ∀ x, foldedSetIterable iter env x = pure x := by intro _; rfl) :
    wpAny (model prog w) A (eval (.ListComp elt [⟨.Name x px, iter, [ct], 0⟩] scope pos) env) Q E s := by
  rw [eval_ListComp]
  refine wpAny_comprehension_free (use := none) rfl hs hclos hkind hnames (wpAny_mono h (fun xv s₁ h₁ => ?_) fun _ _ e => e)
  rcases h₁ with ⟨ax, its, news, rfl, hh, F, N, S, hsz, R⟩
  have hl := S.tup N
  have hlt : ax < s₁.heap.objs.size := by obtain ⟨_, e, _⟩ := hl; exact Heap.lt_size e
  refine wpAny_pyIter_tuple hl ?_
  have up : ∀ b o, s₁.heap.get? b = some o → (s₁.heap.push { cls := .type "tuple_iterator", data := .fields #[.ref ax, .int 0 0] }).get? b = some o := fun b o e => Heap.get?_push_of_some _ e
  refine block_T (Walks.tuple hh s₁.heap.objs.size ax (Nat.ne_of_lt hlt) its) hsz (fun i h st => by obtain ⟨o, e, _⟩ := st.1; exact ⟨o, e⟩) tup_st hcell hkind hx ⟨⟨_, Heap.get?_push_size _ rfl, rfl, rfl⟩, hl.at fun o e => up _ o e⟩ (fun b hb => ?_)
    (F.keeps up) (N.grown up) (Nat.ne_of_lt F.ns.lt) (next_is_new F) (fun p hp => Nat.ne_of_lt (Heap.lt_size (N p hp).1)) S (R _ ⟨_, rfl⟩) ?_
  · show b < (s₁.heap.push _).objs.size
    rw [Heap.size_push]
    rcases List.mem_cons.mp hb with rfl | hb
    · exact Nat.lt_succ_self _
    · rw [List.mem_singleton.mp hb]; exact Nat.lt_succ_of_lt hlt
  · intro D C h' tk m' ys news' F' N' o1 hn hC₀ hD₀ hCL hDL hCD offC fin
    refine ⟨m', hn, fun h'' hs'' => fin D h'' tk (F'.change hs'' hCL hC₀) (fun p hp => ?_) o1⟩
    refine ⟨hs''.extBut _ _ ?_ (N' p hp).1, (N' p hp).2⟩
    rcases List.mem_cons.mp hp with rfl | hp
    · exact Ne.symm hCD
    · exact offC p hp
end
end
section
open PySem PySem.W PySem.Spec PySem.Calls PyProof.Rows PyProof.V
section
variable {prog : Program} {w : World} {A₀ A : Around} {s : Shared} {base h₀ : Heap} {L : Addr} {m : Str → Option Value} {env : Env} {news : List (Addr × Obj)} {K : Frag} {p : Program} {loose : List Str} {mean : ExcName → Option Value} {mg mb : Str → Option Value}
    {R : Result → Shared → Prop} {name qual : Str} {params : Arguments} {body : List Stmt} {scope : Scope} {dV kV doc pm cdv ct oc : Value} {an od : Option Addr} {osl : Array (Option Value)} {f : Addr} {args : Args} {binds : List (Str × Value)}
theorem code_defSX0 (B : Below A₀ base [] h₀) (F : Fr h₀ L s.heap m) (X₀ : K.In h₀) (N : News h₀ L s.heap news) (T : Top p loose mean mg mb h₀) (hA : A.frames = some [env]) (hf : env.frame = some L) (hke : env.scope.kind = .function)
    (ho : K.lookup f = some ⟨oc, od, .func (fnOf name qual params body scope dV kV doc pm an cdv ct), osl⟩) (hcd : codeIn K cdv qual = true) (hroom : A.depth < recursionLimit)
    (hbind : BindsTo s (fnOf name qual params body scope dV kV doc pm an cdv ct) args binds) (hloc : ∀ y ∈ binds, scope.names.lookup y.1 = some .local)
    (h : ∀ g L' h₁, Fr h₀ L g m → Fr g L' h₁ (fun y => binds.reverse.lookup y) → News g L' h₁ news → Below A base [env] g → K.In g → Top p loose mean mg mb g → KtsDicts ([env].filterMap (·.frame)) g →
      wpAny (model prog w) (A.deeper (envOf qual scope L' f cdv)) (execs body (envOf qual scope L' f cdv))
        (fun fl s' => LeaveS0 ([env].filterMap (·.frame)) h₀ L m g R (match fl with | .ret v => v | _ => .none) s')
        (fun e s' => wpAny (model prog w) (A.deeper (envOf qual scope L' f cdv)) (leaving (envOf qual scope L' f cdv) e) (fun _ s'' => R (.error e) s'') (fun e' s'' => R (.error e') s'') s')
        { s with heap := h₁, toks := s.toks + binds.length })
    (hco : scope.isCoroutine = false) (hgen : scope.isGenerator = false) (hk : scope.kind = .function)
    (hcell : ∀ x ∈ scope.names, x.2 ≠ .cell) : codeAny (model prog w) A (.call (.ref f) args) R s := by
  have X := X₀.keeps F.keep
  have hfm : ∀ b, b ∈ [env].filterMap (·.frame) → b = L := fun b hb => by
    obtain ⟨e, he, hfe⟩ := List.mem_filterMap.mp hb
    rw [List.mem_singleton.mp he, hf] at hfe
    exact (Option.some.inj hfe).symm
  refine codeAny_call_def (fd := fnOf name qual params body scope dV kV doc pm an cdv ct) (body := body) (binds := binds) hroom (X _ _ ho) rfl (T.nolimit.keeps F.keep) (codeRec_of X hcd) rfl hbind hcell hloc (fun h₁ hns hk₁ => ?_) hco hgen hk
  have nm : ∀ b o, h₀.get? b = some o → b ∉ news.map (·.1) := fun b o e q => by
    obtain ⟨p, hp, rfl⟩ := List.mem_map.mp q
    rw [(N p hp).2.2] at e; cases e
  have st : h₀.StaysIn (hideAll s.heap (news.map (·.1))) := fun b o e => hideAll_get _ (F.keep b o e) (nm b o e)
  obtain ⟨oL, es, ep, hL, hLd, hLk, hLf⟩ := F.ns
  have nL : L ∉ news.map (·.1) := fun q => by
    obtain ⟨p, hp, e⟩ := List.mem_map.mp q
    exact (N p hp).2.1 e
  have hLg := hideAll_get (news.map (·.1)) hL nL
  have hN : ∀ h', h'.get? L = some oL → Heap.Ns h' L m := fun h' e => ⟨oL, es, ep, e, hLd, hLk, hLf⟩
  have hNs : ∀ (sl : Array (Option Value)) h', h'.get? L = some { oL with slots := sl } → Heap.Ns h' L m := fun sl h' e => ⟨_, es, ep, e, hLd, hLk, hLf⟩
  obtain ⟨_, B₂, _, _⟩ := groundX (R := R) B F N hA hf hke
  refine wpAny_mono (h _ s.heap.objs.size h₁ ⟨hN _ hLg, st, F.above⟩ ⟨hns, fun b o e => hk₁ b o (of_hideAll _ e), Nat.le_of_eq (hideAll_size _ _)⟩
    (fun p hp => ⟨hk₁ _ _ (N p hp).1, Nat.ne_of_lt (Heap.lt_size (N p hp).1), hideAll_none _ (List.mem_map_of_mem hp)⟩) B₂ (X₀.keeps st) (T.keeps st) (fun b hb => by
      rw [hfm b hb]
      exact ⟨oL, es, ep, hLg, hLd⟩)) (fun fl s' hl => ?_) fun _ _ y => y
  obtain ⟨g', L', m', news', T', F', N', k⟩ := hl
  have nL₀ : h₀.get? L = none := kts_self F
  obtain ⟨sl, hs⟩ := T'.up hLg
  refine k ⟨hNs sl _ (F'.keep _ _ hs), fun b o e => F'.keep b o (T'.other b o (st b o e) (fun q => by
    rw [hfm b q, nL₀] at e
    cases e)), F.above⟩ fun p hp => ⟨(N' p hp).1, fun q => ?_, ?_⟩
  · have := (N' p hp).2.2; rw [q, hs] at this; cases this
  · cases q : h₀.get? p.1 with
    | none => rfl
    | some o =>
      obtain ⟨sl', hs'⟩ := T'.up (st _ _ q)
      have := (N' p hp).2.2
      rw [hs'] at this
      cases this
end
end
section
open PySem PySem.W PySem.Spec PySem.Calls PyProof.Rows PyProof.V
open LCg LCt
section
variable {prog : Program} {w : World} {A : Around} {s : Shared} {h₀ : Heap} {L : Addr} {m : Str → Option Value} {env : Env} {ct elt : Expr} {x : Str} {scope : Scope} {cl : List (Str × Addr)} {S : Led → Prop} {P : Nat → Value → Prop} {Fin : List Value → Led → Prop}
theorem compEnd_mono {s₁ s₂ : Shared} {I C D : Addr} {oI oC oD : Obj} {r r' : Value → Led → Prop} {y : Value} (h : ∀ l, r y l → r' y l) (e : CompEnd h₀ L m s₁ I oI C oC D oD S r y s₂) : CompEnd h₀ L m s₁ I oI C oC D oD S r' y s₂ := by
  obtain ⟨h', tk, news', e1, F, N, o, hS, hr⟩ := e
  exact ⟨h', tk, news', e1, F, N, o, hS, h _ hr⟩
theorem comp_inv (J : Nat → List Value → Led → Prop) (n : Nat)
    (turn : ∀ i ys news, i < n → J i ys news → ∀ v I oI C oC D m₂ h tk (E' : Value → Shared → Prop), P i v → NsObj oC m₂ → m₂ x = some v → Fr h₀ L h m → News h₀ L h ((I, oI) :: (C, oC) :: (D, lst ys) :: news) → Off3 I C D news → ((@Ne Nat I C) ∧ (@Ne Nat I D) ∧ (@Ne Nat C D)) →
      wpAny (model prog w) A (eval elt (compEnvC scope cl C env)) (CompEnd h₀ L m { s with heap := h, toks := tk } I oI C oC D (lst ys) S (fun y news' => J (i + 1) (ys ++ [y]) news')) E' { s with heap := h, toks := tk })
    (done : ∀ ys news, J n ys news → Fin ys news) : ∀ (k i : Nat) (ys : List Value) (news : Led), i + k = n → J i ys news → CompRest prog w A h₀ L m env elt x scope cl s S P Fin k i ys news
  | 0, i, ys, news, e, hJ => CompRest.zero (done ys news (by rw [Nat.add_zero] at e; rw [← e]; exact hJ))
  | k + 1, i, ys, news, e, hJ => CompRest.succ fun v I oI C oC D m₂ h tk E' hP hC hx F N o ne =>
      wpAny_mono (turn i ys news (by omega) hJ v I oI C oC D m₂ h tk E' hP hC hx F N o ne) (fun _ _ q => compEnd_mono (fun l hl => comp_inv J n turn done k (i + 1) _ l (by omega) hl) q) fun _ _ q => q
theorem comp_invT (J : Nat → List Value → Led → Prop) (n : Nat)
    (turn : ∀ i ys news, i < n → J i ys news → ∀ v I oI C oC D m₂ h tk (E' : Value → Shared → Prop), P i v → NsObj oC m₂ → m₂ x = some v → Fr h₀ L h m → News h₀ L h ((I, oI) :: (C, oC) :: (D, lst ys) :: news) → Off3 I C D news → ((@Ne Nat I C) ∧ (@Ne Nat I D) ∧ (@Ne Nat C D)) →
      wpAny (model prog w) A (isTrue ct (compEnvC scope cl C env) (eval ct (compEnvC scope cl C env))) (fun ok s' => if ok = true then
        wpAny (model prog w) A (eval elt (compEnvC scope cl C env)) (CompEnd h₀ L m { s with heap := h, toks := tk } I oI C oC D (lst ys) S (fun y news' => J (i + 1) (ys ++ [y]) news')) E' s'
        else CompEnd h₀ L m { s with heap := h, toks := tk } I oI C oC D (lst ys) S (fun _ news' => J (i + 1) ys news') Value.none s') E' { s with heap := h, toks := tk })
    (done : ∀ ys news, J n ys news → Fin ys news) : ∀ (k i : Nat) (ys : List Value) (news : Led), i + k = n → J i ys news → CompRestT prog w A h₀ L m env ct elt x scope cl s S P Fin k i ys news
  | 0, i, ys, news, e, hJ => CompRestT.zero (done ys news (by rw [Nat.add_zero] at e; rw [← e]; exact hJ))
  | k + 1, i, ys, news, e, hJ => CompRestT.succ fun v I oI C oC D m₂ h tk E' hP hC hx F N o ne =>
      wpAny_mono (turn i ys news (by omega) hJ v I oI C oC D m₂ h tk E' hP hC hx F N o ne) (fun ok s' q => by
        cases ok with
        | true =>
          rw [if_pos rfl] at q ⊢
          exact wpAny_mono q (fun _ _ q => compEnd_mono (fun l hl => comp_invT J n turn done k (i + 1) _ l (by omega) hl) q) fun _ _ q => q
        | false =>
          rw [if_neg (by decide)] at q ⊢
          exact compEnd_mono (fun l hl => comp_invT J n turn done k (i + 1) _ l (by omega) hl) q) fun _ _ q => q
end
end
end
open PySem PySem.W PyProof.Rows
local macro_rules | `(tactic| k_room) => `(tactic| ktr_room)
local macro_rules | `(tactic| k_units) => `(tactic| ktr_units)
local macro_rules | `(tactic| ktr_room) => `(tactic| first | exact Mine.rl1 (by assumption) (by rfl) | exact Mine.rl0 (by assumption) | exact Mine.rlr rfl)
local macro_rules | `(tactic| ktr_units) => `(tactic| first | exact Mine.rl3 (by assumption) (by rfl) | exact Mine.rl0 (by assumption) | exact Mine.rlc rfl)
local macro_rules | `(tactic| k_memK) => `(tactic| ((repeat (first | with_reducible assumption | apply List.mem_cons_of_mem)); done))
local macro_rules | `(tactic| walk_at "exec While Compare cons nil") => `(tactic| refine Stop.out ?_)
local macro_rules | `(tactic| walk_at "exec While BoolOp cons nil") => `(tactic| refine Stop.out ?_)
local macro_rules | `(tactic| walk_at "call ref") => `(tactic| refine Stop.out ?_)
local macro_rules | `(tactic| walk_at "call type:enumerate") => `(tactic| refine Stop.out ?_)
local macro_rules | `(tactic| walk_at "compareOp Eq ref ref") => `(tactic| refine Stop.out ?_)
local macro_rules | `(tactic| walk_at "compareOp NotEq ref ref") => `(tactic| refine Stop.out ?_)
local macro_rules | `(tactic| walk_at "execs cons") => `(tactic| k_fold)
local macro_rules | `(tactic| walk_at "pyIter ref") => `(tactic| with_reducible refine Mine.stop_turns ?_)
local macro_rules | `(tactic| walk_at "exec For Name Call cons nil") => `(tactic| (rename Fr _ _ _ _ => lF'; (with_unfolding_all refine' For_turns lF' ?_); k_whole))
local macro_rules | `(tactic| walk_at "exec For Tuple Call cons nil") => `(tactic| walk_at "exec For Name Call cons nil")
local macro_rules | `(tactic| walk_at "exec For Name Name cons nil") => `(tactic| walk_at "exec For Name Call cons nil")
local macro_rules | `(tactic| walk_at "subscriptTail Name Constant ref int") => `(tactic| first
  | k_dflt (first | refine Mine.at_list (by k_asm) (by k_memK) (by decide) rfl (by decide) ?_ (by with_unfolding_all rfl) | refine Mine.at_tup (by k_asm) (by k_memK) (by decide) rfl (by decide) ?_ (by with_unfolding_all rfl))
  | (exfalso; omega))
local macro_rules | `(tactic| walk_at "subscriptTail Subscript Constant ref int") => `(tactic| walk_at "subscriptTail Name Constant ref int")
local macro_rules | `(tactic| walk_at "call builtin:len") => `(tactic| (k_dflt (refine kst_len (by k_asm) (by k_memK) (by first | assumption | exact rfl) (by first | omega | decide) ?_); k_whole))
local macro_rules | `(tactic| walk_at "subscriptTail Name Name ref int") => `(tactic| (k_dflt (refine Mine.at_ints (by k_asm) (by k_memK) (by assumption) (by omega) (by omega) (by omega) ?_ (by with_unfolding_all rfl)); intro t'))
local macro_rules | `(tactic| walk_at "subscriptTail Name BinOp ref int") => `(tactic| walk_at "subscriptTail Name Name ref int")
local macro_rules | `(tactic| k_mem) => `(tactic| ((repeat (first | with_reducible assumption | apply List.mem_cons_of_mem)); done))
section
local macro_rules | `(tactic| omega) => `(tactic| first | decide | with_reducible assumption | lia)
local macro_rules | `(tactic| walk_at "subscriptTail Name Slice ref ref") => `(tactic| refine Stop.out ?_)
section
noncomputable def sxF (p : Int) : Nat → Int → Int
  | 0, _ => 0
  | f + 1, r => if 0 < r then r.fmod 2 + sxF p f (r.fdiv p) else 0
noncomputable def sx (n p : Int) : Int := sxF p (n.fdiv p).toNat (n.fdiv p)
noncomputable def fxF (p : Int) : Nat → Int → Int
  | 0, _ => 0
  | f + 1, r => if 0 < r then r.fdiv p + fxF p f (r.fdiv p) else 0
noncomputable def fx (n p : Int) : Int := fxF p n.toNat n
theorem sxF_fuel {p : Int} (hb : 2 ≤ p) : ∀ (f g : Nat) (r : Int), r ≤ f → r ≤ g → sxF p f r = sxF p g r
  | 0, 0, _, _, _ => rfl
  | 0, g + 1, r, h, _ => by
    rw [sxF, sxF, if_neg (Int.not_lt.mpr (show r ≤ 0 from h))]
  | f + 1, 0, r, _, h => by
    rw [sxF, sxF, if_neg (Int.not_lt.mpr (show r ≤ 0 from h))]
  | f + 1, g + 1, r, h1, h2 => by
    by_cases h : 0 < r
    · simp only [sxF, if_pos h]
      have := fdiv_lt hb h
      rw [sxF_fuel hb f g (r.fdiv p) (le_one h1 this) (le_one h2 this)]
    · simp only [sxF, if_neg h]
theorem sxF_pos {p r : Int} (hb : 2 ≤ p) (h : 0 < r) : sxF p r.toNat r = r.fmod 2 + sxF p (r.fdiv p).toNat (r.fdiv p) := by
  obtain ⟨k, hk⟩ := tn_succ h
  have h1 := fdiv_lt hb h
  rw [hk]
  simp only [sxF, if_pos h]
  rw [sxF_fuel hb k (r.fdiv p).toNat (r.fdiv p) (le_pred hk h1) (Int.self_le_toNat _)]
theorem sxF_nil {p r : Int} (h : ¬ 0 < r) : sxF p r.toNat r = 0 := by
  rw [Int.toNat_of_nonpos (Int.not_lt.mp h)]; rfl
theorem fxF_fuel {p : Int} (hb : 2 ≤ p) : ∀ (f g : Nat) (r : Int), r ≤ f → r ≤ g → fxF p f r = fxF p g r
  | 0, 0, _, _, _ => rfl
  | 0, g + 1, r, h, _ => by
    rw [fxF, fxF, if_neg (Int.not_lt.mpr (show r ≤ 0 from h))]
  | f + 1, 0, r, _, h => by
    rw [fxF, fxF, if_neg (Int.not_lt.mpr (show r ≤ 0 from h))]
  | f + 1, g + 1, r, h1, h2 => by
    by_cases h : 0 < r
    · simp only [fxF, if_pos h]
      have := fdiv_lt hb h
      rw [fxF_fuel hb f g (r.fdiv p) (le_one h1 this) (le_one h2 this)]
    · simp only [fxF, if_neg h]
theorem fxF_pos {p r : Int} (hb : 2 ≤ p) (h : 0 < r) : fxF p r.toNat r = r.fdiv p + fxF p (r.fdiv p).toNat (r.fdiv p) := by
  obtain ⟨k, hk⟩ := tn_succ h
  have h1 := fdiv_lt hb h
  rw [hk]
  simp only [fxF, if_pos h]
  rw [fxF_fuel hb k (r.fdiv p).toNat (r.fdiv p) (le_pred hk h1) (Int.self_le_toNat _)]
theorem fxF_nil {p r : Int} (h : ¬ 0 < r) : fxF p r.toNat r = 0 := by
  rw [Int.toNat_of_nonpos (Int.not_lt.mp h)]; rfl

theorem f_law_row {w : World} {mean : ExcName → Option Value} {mg mb : Str → Option Value} {news : Led} {n p : Int} {tn tp : Tok} (hn : 0 ≤ n) (hp : 3 ≤ p) (hp2 : p ≤ 9) (hlen : (dg (2 ^ p.toNat) n).length ≤ 1000) :
   Does w mean mg mb 189 [.int n tn, .int p tp] news 1 8 (IsL (dg (2 ^ p.toNat) n)) := by
  w_top off
  unfold Does
  k_fill
  intro dp un gd cn cs a ccd cl outer A₀ base h₀ L m s Q E B F X N T hk hdp hun hret
  refine wpAny_call ?_
  k_dflt (refine' code_def (binds := [(Str.ofString "number", Value.int n tn), (Str.ofString "w", Value.int p tp)]) ?k1 ?k2 ?k3 ?k4 ?k5 ?kA ?kF ?kK ?k6 ?k7 ?k8 ?k9 ?kB ?_ ?c2 ?c3 ?c4 ?c5; (case kA => exact rfl); (case kF => exact rfl); (case kK => assumption); (case k1 => k_asm); (case k2 => k_asm); (case k3 => k_asm); (case k4 => k_asm); (case k5 => k_asm); (case k6 => k_is); (case k7 => k_is); (case k8 => ktr_room); (case k9 => exact BindsTo.of_eq rfl); (case c5 => decide); (case kB => exact locs rfl); (case c2 => exact rfl); (case c3 => exact rfl); (case c4 => exact rfl); k_whole; intro g' L' h' FG' F' N' B' X' T'; (try dsimp only); (try k_fold))
  replace F' := frB F'
  dsimp only [kstB, List.reverse, List.reverseAux] at F'
  refine fold_m F' ?_; clear F'; intro m1 F'
  refine fold_A ?_; intro A1
  refine gen_tk ?_; intro tk1
  have hb := (base_ge hp hp2).1
  k_steps
  refine Stop.on ?_
  rename_i l' _ l1 h1 F1 N1
  refine wh (σ := Int × Tok × List Value × List Int × Nat) (fun c => (l', listOf c.2.2.1.toArray c.2.2.2.2) :: news) (fun c => [(Str.ofString "number", .int c.1 c.2.1)]) [] (fun c => IntsAre c.2.2.1 c.2.2.2.1 ∧ 0 ≤ c.1 ∧ c.2.2.2.1 ++ dg (2 ^ p.toNat) c.1 = dg (2 ^ p.toNat) n ∧ c.2.2.2.1.length ≤ 1000) (fun c => c.1.toNat) (n, tn, [], [], 0) F1 N1 ?_ ⟨IntsAre.nil, hn, rfl, Nat.zero_le _⟩ ?_
  · intro p hp
    rw [List.mem_singleton.mp hp]
    rfl
  refine fa5 fun number tnum vs xs k => ?_
  intro u h tk hP F2 N2 K kr kb fin kc
  have kMark := kstMark
  dsimp only [kstB] at hP F2 N2 fin
  have hI := hP.1
  have hn1 := hP.2.1
  have he1 := hP.2.2.1
  have hle := hP.2.2.2
  clear hP
  refine fold_m (L := L') F2 ?_; clear F2; intro m2 F2
  show wpAny _ _ _ _ _ { s with heap := h, toks := tk }
  (try k_fold)
  have hvl := hI.length
  k_steps
  · skip
    rename Fr _ _ _ _ => F3
    rename News _ _ _ _ => N3
    rename 0 < number => hpos
    simp only [List.push_toArray] at N3
    have he2 := peel_step hb hpos he1
    refine fin ⟨_, _, _, _, _⟩ _ _ _ _ F3 N3 (by kst_in) (by kst_all) (by dsimp only [m2]; ksw_same) ⟨by kst_facts, fdiv_nonneg hb hn1, he2, Nat.le_trans (peel_len he2) hlen⟩ ?_
    exact tn_lt hpos (fdiv_lt hb hpos)
  · rename ¬ 0 < number => hpos
    rw [peel_done (by omega) he1] at hI
    exact end_L hret (by k_asm) (by k_asm) l1 hI

theorem f_swing_exponent {w : World} {mean : ExcName → Option Value} {mg mb : Str → Option Value} {news : Led} {n p : Int} {tn tp : Tok} (hn : 0 ≤ n) (hp : 2 ≤ p) (hp2 : p ≤ 100) :
   Does w mean mg mb 116 [.int n tn, .int p tp] news 1 8 (IsInt (sx n p)) := by
  w_top off
  unfold Does
  k_fill
  intro dp un gd cn cs a ccd cl outer A₀ base h₀ L m s Q E B F X N T hk hdp hun hret
  refine wpAny_call ?_
  k_dflt (refine' code_def (binds := [(Str.ofString "n", Value.int n tn), (Str.ofString "prime", Value.int p tp)]) ?k1 ?k2 ?k3 ?k4 ?k5 ?kA ?kF ?kK ?k6 ?k7 ?k8 ?k9 ?kB ?_ ?c2 ?c3 ?c4 ?c5; (case kA => exact rfl); (case kF => exact rfl); (case kK => assumption); (case k1 => k_asm); (case k2 => k_asm); (case k3 => k_asm); (case k4 => k_asm); (case k5 => k_asm); (case k6 => k_is); (case k7 => k_is); (case k8 => ktr_room); (case k9 => exact BindsTo.of_eq rfl); (case c5 => decide); (case kB => exact locs rfl); (case c2 => exact rfl); (case c3 => exact rfl); (case c4 => exact rfl); k_whole; intro g' L' h' FG' F' N' B' X' T'; (try dsimp only); (try k_fold))
  replace F' := frB F'
  dsimp only [kstB, List.reverse, List.reverseAux] at F'
  refine fold_m F' ?_; clear F'; intro m1 F'
  refine fold_A ?_; intro A1
  refine gen_tk ?_; intro tk1
  k_steps
  refine Stop.on ?_
  rename Fr _ _ _ _ => F1
  rename News _ _ _ _ => N1
  refine wh (σ := Int × Tok × Int × Tok) (fun c => news) (fun c => [(Str.ofString "found", .int c.1 c.2.1), (Str.ofString "rest", .int c.2.2.1 c.2.2.2)]) [] (fun c => 0 ≤ c.2.2.1 ∧ c.1 + sxF p c.2.2.1.toNat c.2.2.1 = sx n p) (fun c => c.2.2.1.toNat) (0, _, n.fdiv p, _) F1 (news_sub N1 fun p hp => .tail _ hp) (by kst_all) ⟨fdiv_nonneg hp hn, by rw [Int.zero_add]; rfl⟩ ?_
  refine fa4 fun found t1 rest t2 => ?_
  intro u h tk hP F2 N2 K kr kb fin kc
  have kMark := kstMark
  dsimp only [kstB] at hP F2 N2 fin
  have hn1 := hP.1
  have he1 := hP.2
  clear hP
  refine fold_m (L := L') F2 ?_; clear F2; intro m2 F2
  show wpAny _ _ _ _ _ { s with heap := h, toks := tk }
  (try k_fold)
  k_steps
  · skip
    rename Fr _ _ _ _ => F3
    rename News _ _ _ _ => N3
    rename 0 < rest => hpos
    rw [sxF_pos hp hpos] at he1
    refine fin ⟨_, _, _, _⟩ _ _ _ _ F3 N3 (by kst_in) (by kst_all) (by dsimp only [m2]; ksw_same) ⟨fdiv_nonneg hp hn1, (Int.add_assoc _ _ _).trans he1⟩ (tn_lt hpos (fdiv_lt hp hpos))
  · rename ¬ 0 < rest => hpos
    rw [sxF_nil hpos, Int.add_zero] at he1
    subst he1
    exact end_I hret (by k_asm) (by k_asm)

theorem f_factorial_exponent {w : World} {mean : ExcName → Option Value} {mg mb : Str → Option Value} {news : Led} {n p : Int} {tn tp : Tok} (hn : 0 ≤ n) (hp : 2 ≤ p) (hp2 : p ≤ 100) :
   Does w mean mg mb 149 [.int n tn, .int p tp] news 1 8 (IsInt (fx n p)) := by
  w_top off
  unfold Does
  k_fill
  intro dp un gd cn cs a ccd cl outer A₀ base h₀ L m s Q E B F X N T hk hdp hun hret
  refine wpAny_call ?_
  k_dflt (refine' code_def (binds := [(Str.ofString "n", Value.int n tn), (Str.ofString "prime", Value.int p tp)]) ?k1 ?k2 ?k3 ?k4 ?k5 ?kA ?kF ?kK ?k6 ?k7 ?k8 ?k9 ?kB ?_ ?c2 ?c3 ?c4 ?c5; (case kA => exact rfl); (case kF => exact rfl); (case kK => assumption); (case k1 => k_asm); (case k2 => k_asm); (case k3 => k_asm); (case k4 => k_asm); (case k5 => k_asm); (case k6 => k_is); (case k7 => k_is); (case k8 => ktr_room); (case k9 => exact BindsTo.of_eq rfl); (case c5 => decide); (case kB => exact locs rfl); (case c2 => exact rfl); (case c3 => exact rfl); (case c4 => exact rfl); k_whole; intro g' L' h' FG' F' N' B' X' T'; (try dsimp only); (try k_fold))
  replace F' := frB F'
  dsimp only [kstB, List.reverse, List.reverseAux] at F'
  refine fold_m F' ?_; clear F'; intro m1 F'
  refine fold_A ?_; intro A1
  refine gen_tk ?_; intro tk1
  k_steps
  refine Stop.on ?_
  rename Fr _ _ _ _ => F1
  rename News _ _ _ _ => N1
  refine wh (σ := Int × Tok × Int × Tok) (fun c => news) (fun c => [(Str.ofString "found", .int c.1 c.2.1), (Str.ofString "n", .int c.2.2.1 c.2.2.2)]) [] (fun c => 0 ≤ c.2.2.1 ∧ c.1 + fxF p c.2.2.1.toNat c.2.2.1 = fx n p) (fun c => c.2.2.1.toNat) (0, _, n, _) F1 N1 (by kst_all) ⟨hn, by rw [Int.zero_add]; rfl⟩ ?_
  refine fa4 fun found t1 rest t2 => ?_
  intro u h tk hP F2 N2 K kr kb fin kc
  have kMark := kstMark
  dsimp only [kstB] at hP F2 N2 fin
  have hn1 := hP.1
  have he1 := hP.2
  clear hP
  refine fold_m (L := L') F2 ?_; clear F2; intro m2 F2
  show wpAny _ _ _ _ _ { s with heap := h, toks := tk }
  (try k_fold)
  k_steps
  · skip
    rename Fr _ _ _ _ => F3
    rename News _ _ _ _ => N3
    rename 0 < rest => hpos
    rw [fxF_pos hp hpos] at he1
    refine fin ⟨_, _, _, _⟩ _ _ _ _ F3 N3 (by kst_in) (by kst_all) (by dsimp only [m2]; ksw_same) ⟨fdiv_nonneg hp hn1, (Int.add_assoc _ _ _).trans he1⟩ (tn_lt hpos (fdiv_lt hp hpos))
  · rename ¬ 0 < rest => hpos
    rw [fxF_nil hpos, Int.add_zero] at he1
    subst he1
    exact end_I hret (by k_asm) (by k_asm)

theorem f_need_count {w : World} {mean : ExcName → Option Value} {mg mb : Str → Option Value} {news : Led} {n : Int} {tn : Tok} (hn : 0 ≤ n) :
   Does w mean mg mb 88 [.int n tn] news 1 8 IsNone := by
  w_top off
  unfold Does
  k_fill
  intro dp un gd cn cs a ccd cl outer A₀ base h₀ L m s Q E B F X N T hk hdp hun hret
  refine wpAny_call ?_
  k_dflt (refine' code_def (binds := [(Str.ofString "n", Value.int n tn)]) ?k1 ?k2 ?k3 ?k4 ?k5 ?kA ?kF ?kK ?k6 ?k7 ?k8 ?k9 ?kB ?_ ?c2 ?c3 ?c4 ?c5; (case kA => exact rfl); (case kF => exact rfl); (case kK => assumption); (case k1 => k_asm); (case k2 => k_asm); (case k3 => k_asm); (case k4 => k_asm); (case k5 => k_asm); (case k6 => k_is); (case k7 => k_is); (case k8 => ktr_room); (case k9 => exact BindsTo.of_eq rfl); (case c5 => decide); (case kB => exact locs rfl); (case c2 => exact rfl); (case c3 => exact rfl); (case c4 => exact rfl); k_whole; intro g' L' h' FG' F' N' B' X' T'; (try dsimp only); (try k_fold))
  replace F' := frB F'
  dsimp only [kstB, List.reverse, List.reverseAux] at F'
  refine fold_m F' ?_; clear F'; intro m1 F'
  refine fold_A ?_; intro A1
  refine gen_tk ?_; intro tk1
  k_steps
  all_goals first | (exfalso; omega) | exact end_N hret (by k_asm) (by k_asm)
end
section
theorem take_succ_getD {xs : List Int} {e : Int} (h0 : 0 < e) (h1 : e ≤ xs.length) : xs.take e.toNat = xs.take (e - 1).toNat ++ [xs.getD (e - 1).toNat 0] := by
  obtain ⟨k, hk9⟩ := tn_succ h0
  have he : e = ((k + 1 : Nat) : Int) := by rw [← hk9]; exact (Int.toNat_of_nonneg (Int.le_of_lt h0)).symm
  subst he
  have hq : (((k + 1 : Nat) : Int) - 1).toNat = k := Int.toNat_sub (k + 1) 1
  have hk : (((k + 1 : Nat) : Int)).toNat = (((k + 1 : Nat) : Int) - 1).toNat + 1 := by rw [hq]; rfl
  have hlt : (((k + 1 : Nat) : Int) - 1).toNat < xs.length := by rw [hq]; exact Int.ofNat_le.mp h1
  rw [hk, List.take_add_one, List.getD_eq_getElem?_getD, List.getElem?_eq_getElem hlt]
  rfl
theorem nrm_take0 {xs : List Int} {e : Int} (h0 : 0 < e) (h1 : e ≤ xs.length) (hz : xs.getD (e - 1).toNat 0 = 0) : nrm (xs.take (e - 1).toNat) = nrm (xs.take e.toNat) := by
  rw [take_succ_getD h0 h1, hz, nrm_snoc0]
theorem nrm_take1 {xs : List Int} {e : Int} (h0 : 0 < e) (h1 : e ≤ xs.length) (hz : ¬ xs.getD (e - 1).toNat 0 = 0) : nrm (xs.take e.toNat) = xs.take e.toNat := by
  rw [take_succ_getD h0 h1, nrm_snoc _ hz]
theorem he1z {e : Int} {xs : List Int} (h : ¬ 0 < e) (h1 : nrm (xs.take e.toNat) = nrm xs) : xs.take e.toNat = nrm xs := by
  have hz : e.toNat = 0 := by omega
  rw [hz, List.take_zero] at h1 ⊢
  exact h1
theorem f_normal {w : World} {mean : ExcName → Option Value} {mg mb : Str → Option Value} {news : Led} {xs : List Int} {vs : List Value} {l : Addr} {k : Nat} (hl : (l, listOf vs.toArray k) ∈ news) (hI : IntsAre vs xs) (hlen : xs.length ≤ 1000) :
   Does w mean mg mb 46 [.ref l] news 1 8 (IsL (nrm xs)) := by
  w_top off
  unfold Does
  k_fill
  intro dp un gd cn cs a ccd cl outer A₀ base h₀ L m s Q E B F X N T hk hdp hun hret
  refine wpAny_call ?_
  k_dflt (refine' code_def (binds := [(Str.ofString "a", Value.ref l)]) ?k1 ?k2 ?k3 ?k4 ?k5 ?kA ?kF ?kK ?k6 ?k7 ?k8 ?k9 ?kB ?_ ?c2 ?c3 ?c4 ?c5; (case kA => exact rfl); (case kF => exact rfl); (case kK => assumption); (case k1 => k_asm); (case k2 => k_asm); (case k3 => k_asm); (case k4 => k_asm); (case k5 => k_asm); (case k6 => k_is); (case k7 => k_is); (case k8 => ktr_room); (case k9 => exact BindsTo.of_eq rfl); (case c5 => decide); (case kB => exact locs rfl); (case c2 => exact rfl); (case c3 => exact rfl); (case c4 => exact rfl); k_whole; intro g' L' h' FG' F' N' B' X' T'; (try dsimp only); (try k_fold))
  replace F' := frB F'
  dsimp only [kstB, List.reverse, List.reverseAux] at F'
  refine fold_m F' ?_; clear F'; intro m1 F'
  refine fold_A ?_; intro A1
  refine gen_tk ?_; intro tk1
  have kMark := kstMark
  have hvl := hI.length
  k_steps
  refine Stop.on ?_
  rename Fr _ _ _ _ => F1
  rename News _ _ _ _ => N1
  refine wh (σ := Int × Tok) (fun c => news) (fun c => [(Str.ofString "end", .int c.1 c.2)]) [] (fun c => 0 ≤ c.1 ∧ c.1 ≤ xs.length ∧ nrm (xs.take c.1.toNat) = nrm xs) (fun c => c.1.toNat) (_, _) F1 N1 (by kst_all) ⟨by dsimp only; omega, by dsimp only; omega, by show nrm (xs.take (xs.length : Int).toNat) = nrm xs; rw [Int.toNat_natCast, List.take_length]⟩ ?_
  refine fa2 fun e t1 => ?_
  intro u h tk hP F2 N2 K kr kb fin kc
  dsimp only [kstB] at hP F2 N2 fin
  have hn1 := hP.1
  have hn2 := hP.2.1
  have he1 := hP.2.2
  clear hP
  refine fold_m (L := L') F2 ?_; clear F2; intro m2 F2
  show wpAny _ _ _ _ _ { s with heap := h, toks := tk }
  (try k_fold)
  k_steps
  · skip
    rename Fr _ _ _ _ => F3
    rename News _ _ _ _ => N3
    rename 0 < e => hpos
    rename xs.getD _ _ = 0 => hz
    refine fin ⟨_, _⟩ _ _ _ _ F3 N3 (by kst_in) (by kst_all) (by dsimp only [m2]; ksw_same) ⟨Int.le_sub_one_of_lt hpos, Int.le_trans (Int.sub_le_self e (by decide)) hn2, ?_⟩ (tn_lt hpos (Int.sub_one_lt_of_le (Int.le_refl e)))
    exact (nrm_take0 hpos hn2 hz).trans he1
  · rename 0 < e => hpos
    rename ¬ xs.getD _ _ = 0 => hz
    refine Stop.on ?_
    k_dflt (refine Mine.sl_upto (by k_asm) (by k_asm) (by k_memK) (by first | assumption | omega) (by omega) ?_ (by with_unfolding_all rfl) (by kmk_pure))
    intro D' h' F' N' l1
    (try k_lt l1)
    (try k_sweep)
    k_steps
    have hI2 := hI.take e.toNat
    rw [← nrm_take1 hpos hn2 hz, he1] at hI2
    exact end_L hret (by k_asm) (by k_asm) (by assumption) hI2
  · rename ¬ 0 < e => hpos
    refine Stop.on ?_
    k_dflt (refine Mine.sl_upto (by k_asm) (by k_asm) (by k_memK) (by first | assumption | omega) (by omega) ?_ (by with_unfolding_all rfl) (by kmk_pure))
    intro D' h' F' N' l1
    (try k_lt l1)
    (try k_sweep)
    k_steps
    have hI2 := hI.take e.toNat
    rw [he1z hpos he1] at hI2
    exact end_L hret (by k_asm) (by k_asm) (by assumption) hI2
end
section
theorem f_nat_of {w : World} {mean : ExcName → Option Value} {mg mb : Str → Option Value} {news : Led} {n p : Int} {tn tp : Tok} (hn : 0 ≤ n) (hp : 3 ≤ p) (hp2 : p ≤ 9) (hlen : (dg (2 ^ p.toNat) n).length ≤ 1000) :
   Does w mean mg mb 53 [.int n tn, .int p tp] news 1 8 (IsL (dg (2 ^ p.toNat) n)) := by
  w_top off
  unfold Does
  k_fill
  intro dp un gd cn cs a ccd cl outer A₀ base h₀ L m s Q E B F X N T hk hdp hun hret
  refine wpAny_call ?_
  k_dflt (refine' code_def (binds := [(Str.ofString "number", Value.int n tn), (Str.ofString "w", Value.int p tp)]) ?k1 ?k2 ?k3 ?k4 ?k5 ?kA ?kF ?kK ?k6 ?k7 ?k8 ?k9 ?kB ?_ ?c2 ?c3 ?c4 ?c5; (case kA => exact rfl); (case kF => exact rfl); (case kK => assumption); (case k1 => k_asm); (case k2 => k_asm); (case k3 => k_asm); (case k4 => k_asm); (case k5 => k_asm); (case k6 => k_is); (case k7 => k_is); (case k8 => ktr_room); (case k9 => exact BindsTo.of_eq rfl); (case c5 => decide); (case kB => exact locs rfl); (case c2 => exact rfl); (case c3 => exact rfl); (case c4 => exact rfl); k_whole; intro g' L' h' FG' F' N' B' X' T'; (try dsimp only); (try k_fold))
  replace F' := frB F'
  dsimp only [kstB, List.reverse, List.reverseAux] at F'
  refine fold_m F' ?_; clear F'; intro m1 F'
  refine fold_A ?_; intro A1
  refine gen_tk ?_; intro tk1
  have hb := (base_ge hp hp2).1
  k_steps
  refine Stop.on ?_
  rename_i l' _ lt1 D' _ lt2 _ _ _ F1 N1
  rw [Int.one_mul] at F1
  refine wh (σ := Int × Tok × List Value × List Int × Nat) (fun c => (l', listOf c.2.2.1.toArray c.2.2.2.2) :: news) (fun c => [(Str.ofString "number", .int c.1 c.2.1)]) [] (fun c => IntsAre c.2.2.1 c.2.2.2.1 ∧ 0 ≤ c.1 ∧ c.2.2.2.1 ++ dg (2 ^ p.toNat) c.1 = dg (2 ^ p.toNat) n ∧ c.2.2.2.1.length ≤ 1000) (fun c => c.1.toNat) (n, tn, [], [], 0) F1 (news_sub N1 fun p hp => .tail _ hp) (by kst_all) ⟨IntsAre.nil, hn, rfl, Nat.zero_le _⟩ ?_
  refine fa5 fun number tnum vs xs k => ?_
  intro u h tk hP F2 N2 K kr kb fin kc
  have kMark := kstMark
  dsimp only [kstB] at hP F2 N2 fin
  have hI := hP.1
  have hn1 := hP.2.1
  have he1 := hP.2.2.1
  have hle := hP.2.2.2
  clear hP
  refine fold_m (L := L') F2 ?_; clear F2; intro m2 F2
  show wpAny _ _ _ _ _ { s with heap := h, toks := tk }
  (try k_fold)
  have hvl := hI.length
  k_steps
  · skip
    rename Fr _ _ _ _ => F3
    rename News _ _ _ _ => N3
    rename 0 < number => hpos
    simp only [List.push_toArray, kbt_maskF] at N3
    have he2 := peel_step hb hpos he1
    refine fin ⟨_, _, _, _, _⟩ _ _ _ _ F3 N3 (by kst_in) (by kst_all) (by dsimp only [m2]; ksw_same) ⟨by kst_facts, fdiv_nonneg hb hn1, he2, Nat.le_trans (peel_len he2) hlen⟩ ?_
    exact tn_lt hpos (fdiv_lt hb hpos)
  · rename ¬ 0 < number => hpos
    rw [peel_done (by omega) he1] at hI
    exact end_L hret (by k_asm) (by k_asm) lt1 hI
end
section
theorem flat_zero {n : Nat} {vs : List Value} {ts : List Int} (h : ts = (List.replicate n [(0:Int)]).flatten) : ∀ x ∈ ts, x = 0 := by
  subst h
  intro x hx
  obtain ⟨l, hl, hx⟩ := List.mem_flatten.mp hx
  rw [List.eq_of_mem_replicate hl] at hx
  simpa using hx
theorem f_mul_school {w : World} {mean : ExcName → Option Value} {mg mb : Str → Option Value} {news : Led} {la lb : Addr} {va vb : List Value} {na nb : Nat} {xs ys : List Int} {p : Int} {tp : Tok} (hla : (la, listOf va.toArray na) ∈ news) (hlb : (lb, listOf vb.toArray nb) ∈ news) (hIa : IntsAre va xs) (hIb : IntsAre vb ys) (hxs : xs.length ≤ 400) (hys : ys.length ≤ 400)
  (hp : 3 ≤ p) (hp2 : p ≤ 9) (hdx : Dig (2 ^ p.toNat) xs) (hdy : Dig (2 ^ p.toNat) ys) :
   Does w mean mg mb 170 [.ref la, .ref lb, .int p tp] news 2 16 (IsL (dg (2 ^ p.toNat) (val (2 ^ p.toNat) xs * val (2 ^ p.toNat) ys))) := by
  w_top off
  unfold Does
  k_fill
  intro dp un gd cn cs a ccd cl outer A₀ base h₀ L m s Q E B F X N T hk hdp hun hret
  refine wpAny_call ?_
  k_dflt (refine' code_def (binds := [(Str.ofString "a", Value.ref la), (Str.ofString "b", Value.ref lb), (Str.ofString "w", Value.int p tp)]) ?k1 ?k2 ?k3 ?k4 ?k5 ?kA ?kF ?kK ?k6 ?k7 ?k8 ?k9 ?kB ?_ ?c2 ?c3 ?c4 ?c5; (case kA => exact rfl); (case kF => exact rfl); (case kK => assumption); (case k1 => k_asm); (case k2 => k_asm); (case k3 => k_asm); (case k4 => k_asm); (case k5 => k_asm); (case k6 => k_is); (case k7 => k_is); (case k8 => ktr_room); (case k9 => exact BindsTo.of_eq rfl); (case c5 => decide); (case kB => exact locs rfl); (case c2 => exact rfl); (case c3 => exact rfl); (case c4 => exact rfl); k_whole; intro g' L' h' FG' F' N' B' X' T'; (try dsimp only); (try k_fold))
  replace F' := frB F'
  dsimp only [kstB, List.reverse, List.reverseAux] at F'
  refine fold_m F' ?_; clear F'; intro m1 F'
  refine fold_A ?_; intro A1
  refine gen_tk ?_; intro tk1
  have hbs := base_ge hp hp2
  have kMark := kstMark
  have hva := hIa.length
  have hvb := hIb.length
  k_steps
  refine Stop.on ?_
  rename_i D _ i1 n1 s1 e1 e2 e3 lt1 D2 _ lt2 _ _ _ F1 N1
  rw [Int.one_mul] at F1
  have hst : MulO (2 ^ p.toNat) xs ys 0 (List.replicate ((xs.length : Int) + ys.length).toNat [(0:Int)]).flatten := MulO.start hbs.1 (by omega) (flat_zero (vs := va) rfl)
  refine enum_inv (σ := List Value × List Int × Nat) (fun c => (D, listOf c.1.toArray c.2.2) :: news) (fun _ => []) [Str.ofString "at", Str.ofString "limb", Str.ofString "carry", Str.ofString "spot", Str.ofString "other"] (fun i c => IntsAre c.1 c.2.1 ∧ MulO (2 ^ p.toNat) xs ys i c.2.1) (_, _, 0) rfl (fun c => .tail _ hla) hIa (fun _ => rfl) F1 (news_sub N1 (by kst_in)) (fun _ h => nomatch h) ⟨i1, hst⟩ ?_ ?_
  · refine fun i => fa3 fun fv F k => ?_
    intro x t tx T u h tk I o1 o2 hx hP hT hoff F2 N2 K kr kb fin kc
    dsimp only [kstB] at hP hT hoff F2 N2 fin
    have hIF := hP.1
    have hM := hP.2
    clear hP
    have hfl := hIF.length
    have hxi := List.getElem?_eq_some_iff.mp hx
    have hx1 : i < xs.length := hxi.1
    have hx2 : 0 ≤ x ∧ x < 2 ^ p.toNat := hdx x (hxi.2 ▸ List.getElem_mem hx1)
    have hF := hM.len
    have hD1 : I+1 ≠ D := hoff _ (.head _) _ (.head _)
    have hD2 : I ≠ D := hoff _ (.tail _ (.head _)) _ (.head _)
    refine fold_m (L := L') F2 ?_; clear F2; intro m2 F2
    show wpAny _ _ _ _ _ { s with heap := h, toks := tk }
    (try k_fold)
    k_steps
    refine Stop.on ?_
    rename Fr _ _ _ _ => F3
    rename News _ _ _ _ => N3
    refine enum_inv (σ := List Value × List Int × Nat × Int × Tok) (fun c => (I+1,o1)::(I,o2)::(D, listOf c.1.toArray c.2.2.1)::news) (fun c => [(Str.ofString "carry", .int c.2.2.2.1 c.2.2.2.2)]) [Str.ofString "spot", Str.ofString "other"] (fun j c => IntsAre c.1 c.2.1 ∧ MulI (2 ^ p.toNat) xs ys i x j c.2.2.2.1 c.2.1) (fv, F, k, 0, _) rfl (fun c => .tail _ (.tail _ (.tail _ hlb))) hIb (fun _ => rfl) F3 N3 (by kst_all) ⟨hIF, hM.inn hbs.1 x⟩ ?_ ?_
    · refine fun j => fa5 fun fw G kk cy tcy => ?_
      intro y tj ty T2 u2 h2 tk2 J o3 o4 hy hP2 hT2 hoff2 F4 N4 K2 kr2 kb2 fin2 kc2
      dsimp only [kstB] at hP2 hT2 hoff2 F4 N4 fin2
      have hIG := hP2.1
      have hN := hP2.2
      clear hP2
      have hgl := hIG.length
      have hyi := List.getElem?_eq_some_iff.mp hy
      have hy1 : j < ys.length := hyi.1
      have hy2 : 0 ≤ y ∧ y < 2 ^ p.toNat := hdy y (hyi.2 ▸ List.getElem_mem hy1)
      have hG := hN.len
      have hc0 := hN.c0
      have hc1 := hN.c1
      have hD3 : J+1 ≠ D := hoff2 _ (.head _) _ (.tail _ (.tail _ (.head _)))
      have hD4 : J ≠ D := hoff2 _ (.tail _ (.head _)) _ (.tail _ (.tail _ (.head _)))
      have hgd := dig_at hbs.1 hN.dig (i + j)
      have hxy : x * y < 512 * 512 := by
        have h1 : x * y ≤ 512 * y := Int.mul_le_mul_of_nonneg_right (by omega) hy2.1
        omega
      have hxy0 : 0 ≤ x * y := Int.mul_nonneg hx2.1 hy2.1
      refine fold_m (L := L') F4 ?_; clear F4; intro m4 F4
      show wpAny _ _ _ _ _ { s with heap := h2, toks := tk2 }
      (try k_fold)
      k_steps
      rename Fr _ _ _ _ => F5
      rename News _ _ _ _ => N5
      rename IntsAre (fw.set _ _) _ => hI5
      have e9 : ((i:Int)+(j:Int)).toNat = i+j := by omega
      simp only [e9, kbt_maskF] at hI5 N5 F5
      have hN2 := hN.step hbs.1 hx2.1 hx2.2 hx1 hy hy2.1 hy2.2
      exact fin2 ⟨_, _, _, _, _⟩ _ _ _ _ F5 N5 (by kst_in) (by kst_in) (by kst_all) (by dsimp only [m4]; ksw_same) ⟨hI5, hN2⟩
    · refine fa5 fun fw G kk cy tcy => ?_
      intro u2 h2 tk2 hP2 F4 N4
      dsimp only [kstB] at hP2 F4 N4
      have hIG := hP2.1
      have hN := hP2.2
      clear hP2
      have hgl := hIG.length
      have hG := hN.len
      have hc0 := hN.c0
      have hc1 := hN.c1
      refine fold_m (L := L') F4 ?_; clear F4; intro m4 F4
      k_steps
      rename Fr _ _ _ _ => F5
      rename News _ _ _ _ => N5
      rename IntsAre (fw.set _ _) _ => hI5
      have e9 : ((i:Int)+(ys.length:Int)).toNat = i+ys.length := by omega
      rw [e9] at hI5 N5
      have hM2 := hN.fin hx
      exact fin ⟨_, _, _⟩ _ _ _ _ F5 N5 (by kst_in) (by kst_in) (fun _ h => nomatch h) (by dsimp only [m4, m2]; ksw_same) ⟨hI5, hM2⟩
  · refine fa3 fun fv F k => ?_
    intro u h tk hP F2 N2
    dsimp only [kstB] at hP F2 N2
    have hIF := hP.1
    have hM := hP.2
    clear hP
    have hfl := hIF.length
    have hF := hM.len
    refine fold_N (L := L') N2 ?_; clear N2; intro N2
    refine fold_m (L := L') F2 ?_; clear F2; intro m2 F2
    k_steps
    refine Stop.on ?_
    k_dflt (refine' use_L ?cD ?cB ?cF ?cX ?cN ?cT ?cK ?cd ?cu ?_; (case cB => k_asm); (case cF => k_asm); (case cX => k_asm); (case cN => k_asm); (case cT => k_asm); (case cD => exact (f_normal (.head _) hIF (by omega)) ); (case cK => first | exact rfl | assumption); (case cd => ktr_room); (case cu => ktr_units))
    intro r ws kr h_ tk_ F_ N_ lr hIr
    skip
    (try dsimp only)
    k_sweep
    (try k_fold)
    rw [hM.fin hbs.1] at hIr
    k_steps
    exact end_L hret (by k_asm) (news_sub (by k_asm) (by kst_in)) (fun p hp => lr p (.tail _ hp)) hIr
/-- the product of two counts -/
theorem f_mul {w : World} {mean : ExcName → Option Value} {mg mb : Str → Option Value} {news : Led} {la lb : Addr} {va vb : List Value} {na nb : Nat} {A B : Int} {p : Int} {tp : Tok} (hla : (la, listOf va.toArray na) ∈ news) (hlb : (lb, listOf vb.toArray nb) ∈ news) (hIa : IntsAre va (dg (2 ^ p.toNat) A)) (hIb : IntsAre vb (dg (2 ^ p.toNat) B)) (hA : 0 ≤ A) (hB : 0 ≤ B) (hxs : (dg (2 ^ p.toNat) A).length ≤ 400) (hys : (dg (2 ^ p.toNat) B).length ≤ 400)
  (hp : 3 ≤ p) (hp2 : p ≤ 9) :
   Does w mean mg mb 170 [.ref la, .ref lb, .int p tp] news 2 16 (IsL (dg (2 ^ p.toNat) (A * B))) := by
  have hb := (base_ge hp hp2).1
  have h := f_mul_school (w := w) (mean := mean) (mg := mg) (mb := mb) (tp := tp) hla hlb hIa hIb hxs hys hp hp2 (dig_dg hb A hA) (dig_dg hb B hB)
  rw [val_dg hb A hA, val_dg hb B hB] at h
  exact h
end
section
noncomputable def prd : List Int → Int
  | [] => 1
  | c :: r => c * prd r
theorem prd_append : ∀ (xs ys : List Int), prd (xs ++ ys) = prd xs * prd ys
  | [], ys => by show prd ys = 1 * prd ys; rw [Int.one_mul]
  | x :: r, ys => by
    show x * prd (r ++ ys) = x * prd r * prd ys
    rw [prd_append r ys, Int.mul_assoc]
theorem prd_pos : ∀ {xs : List Int}, (∀ c ∈ xs, 1 ≤ c) → 1 ≤ prd xs
  | [], _ => Int.le_refl _
  | x :: r, h => by
    have h1 := h x (.head _)
    have h2 := prd_pos (xs := r) fun c hc => h c (.tail _ hc)
    show 1 ≤ x * prd r
    have h3 : 1 * 1 ≤ x * prd r := Int.mul_le_mul h1 h2 (by omega) (by omega)
    omega
theorem mul_le_left {x y : Int} (hx : 1 ≤ x) (hy : 1 ≤ y) : x ≤ x * y := by
  have := Int.mul_le_mul_of_nonneg_left hy (show 0 ≤ x by omega)
  omega
theorem mul_le_right {x y : Int} (hx : 1 ≤ x) (hy : 1 ≤ y) : y ≤ x * y := by
  rw [Int.mul_comm]; exact mul_le_left hy hx
theorem prd_split {xs : List Int} (k : Nat) (h : ∀ c ∈ xs, 1 ≤ c) : prd (xs.take k) * prd (xs.drop k) = prd xs ∧ (∀ c ∈ xs.take k, 1 ≤ c) ∧ (∀ c ∈ xs.drop k, 1 ≤ c) ∧ prd (xs.take k) ≤ prd xs ∧ prd (xs.drop k) ≤ prd xs ∧ 1 ≤ prd (xs.take k) ∧ 1 ≤ prd (xs.drop k) := by
  have e : prd (xs.take k) * prd (xs.drop k) = prd xs := by rw [← prd_append, List.take_append_drop]
  have h1 : ∀ c ∈ xs.take k, 1 ≤ c := fun c hc => h c (List.mem_of_mem_take hc)
  have h2 : ∀ c ∈ xs.drop k, 1 ≤ c := fun c hc => h c (List.mem_of_mem_drop hc)
  have p1 := prd_pos h1
  have p2 := prd_pos h2
  refine ⟨e, h1, h2, ?_, ?_, p1, p2⟩
  · rw [← e]; exact mul_le_left p1 p2
  · rw [← e]; exact mul_le_right p1 p2
theorem nn1 {x : Int} (h : 1 ≤ x) : 0 ≤ x := by omega
theorem half_le {n j : Nat} (h0 : (n : Int) ≠ 0) (h1 : (n : Int) ≠ 1) (h : n ≤ j + 1) : min ((n : Int).fdiv 2).toNat n ≤ j ∧ n - ((n : Int).fdiv 2).toNat ≤ j := by
  rw [Int.fdiv_eq_ediv_of_nonneg _ (by omega)]
  omega
theorem half_at (n : Nat) : 0 ≤ (n : Int).fdiv 2 ∧ ((n : Int).fdiv 2).toNat = n / 2 := by
  rw [Int.fdiv_eq_ediv_of_nonneg _ (by decide)]
  exact ⟨Int.natCast_nonneg (n / 2), rfl⟩
theorem room_j {a j c r : Nat} (h : a + (j + 1 + c) < r) : a + 1 + (j + c) < r := by omega
theorem unit_j {a j c r : Nat} (h : a + (4 * (j + 1) + c) < r) : a + 3 + (4 * j + c) < r := by omega
theorem f_product_of_counts {w : World} {mean : ExcName → Option Value} {mg mb : Str → Option Value} {p : Int} {tp : Tok} (hp : 3 ≤ p) (hp2 : p ≤ 9) : ∀ (k : Nat) {news : Led} {l : Addr} {vs : List Value} {n : Nat} {xs : List Int} (hl : (l, listOf vs.toArray n) ∈ news) (hI : IntsAre vs xs) (h1 : ∀ c ∈ xs, 1 ≤ c) (h2 : prd xs < 2 ^ 400) (hk : xs.length ≤ k) (hk100 : k ≤ 100),
   Does w mean mg mb 95 [.ref l, .int p tp, .ref 170] news (k + 4) (4 * k + 24) (IsL (dg (2 ^ p.toNat) (prd xs))) := by
  intro k
  induction k using Nat.strongRecOn with
  | ind k ih =>
    intro news l vs n xs hl hI h1 h2 hk hk100
    w_top off
    unfold Does
    k_fill
    intro dp un gd cn cs a ccd cl outer A₀ base h₀ L m s Q E B F X N T hk hdp hun hret
    refine wpAny_call ?_
    k_dflt (refine' code_def (binds := [(Str.ofString "some", Value.ref l), (Str.ofString "w", Value.int p tp), (Str.ofString "mul", Value.ref 170)]) ?k1 ?k2 ?k3 ?k4 ?k5 ?kA ?kF ?kK ?k6 ?k7 ?k8 ?k9 ?kB ?_ ?c2 ?c3 ?c4 ?c5; (case kA => exact rfl); (case kF => exact rfl); (case kK => assumption); (case k1 => k_asm); (case k2 => k_asm); (case k3 => k_asm); (case k4 => k_asm); (case k5 => k_asm); (case k6 => k_is); (case k7 => k_is); (case k8 => ktr_room); (case k9 => exact BindsTo.of_eq rfl); (case c5 => decide); (case kB => exact locs rfl); (case c2 => exact rfl); (case c3 => exact rfl); (case c4 => exact rfl); k_whole; intro g' L' h' FG' F' N' B' X' T'; (try dsimp only); (try k_fold))
    replace F' := frB F'
    dsimp only [kstB, List.reverse, List.reverseAux] at F'
    refine fold_m F' ?_; clear F'; intro m1 F'
    refine fold_A ?_; intro A1
    refine gen_tk ?_; intro tk1
    have hbs := base_ge hp hp2
    have kMark := kstMark
    have hvl := hI.length
    have hh1 := (half_at xs.length).1
    k_steps
    · rename (xs.length : Int) = 0 => hz
      have hx : xs = [] := List.eq_nil_of_length_eq_zero (by omega)
      subst hx
      rename News _ _ _ (_ :: _) => N9
      exact end_L hret (by k_asm) (by k_asm) (by assumption) (by rw [show prd [] = 1 from rfl, dg_one hbs.1]; exact .cons _ _ .nil)
    · rename (xs.length : Int) = 1 => hz
      obtain ⟨x, hx⟩ := List.length_eq_one_iff.mp (show xs.length = 1 by omega)
      subst hx
      have hx1 := h1 x (.head _)
      have hx2 : prd [x] = x := by show x * 1 = x; rw [Int.mul_one]
      rw [hx2] at h2
      refine Stop.on ?_
      k_dflt (refine' use_L ?cD ?cB ?cF ?cX ?cN ?cT ?cK ?cd ?cu ?_; (case cB => k_asm); (case cF => k_asm); (case cX => k_asm); (case cN => k_asm); (case cT => k_asm); (case cD => exact (f_nat_of (nn1 hx1) hp hp2 (Nat.le_trans (dg_len hbs.1 400 _ (nn1 hx1) h2) (by decide))) ); (case cK => first | exact rfl | assumption); (case cd => ktr_room); (case cu => ktr_units))
      intro r ws kr h_ tk_ F_ N_ lr hIr
      skip
      (try dsimp only)
      k_sweep
      (try k_fold)
      k_steps
      exact end_L hret (by k_asm) (by k_asm) lr (by rw [hx2]; exact hIr)
    · refine Stop.on ?_
      k_dflt (refine Mine.sl_upto (by k_asm) (by k_asm) (by k_memK) (by first | assumption | omega) (by omega) ?_ (by with_unfolding_all rfl) (by kmk_pure))
      intro D' h' F' N' l1
      (try k_lt l1)
      (try k_sweep)
      k_steps
      rename (xs.length : Int) ≠ 0 => hz
      rename (xs.length : Int) ≠ 1 => hz1
      have hI2 := hI.take ((xs.length : Int).fdiv 2).toNat
      have hI3 := hI.drop ((xs.length : Int).fdiv 2).toNat
      obtain ⟨he, ha1, ha2, ha3, ha4, ha5, ha6⟩ := prd_split ((xs.length : Int).fdiv 2).toNat h1
      obtain ⟨j, rfl⟩ : ∃ j, k = j + 1 := ⟨k - 1, by omega⟩
      have hl1 : (xs.take ((xs.length : Int).fdiv 2).toNat).length ≤ j := by rw [List.length_take]; exact (half_le hz hz1 hk).1
      have hl2 : (xs.drop ((xs.length : Int).fdiv 2).toNat).length ≤ j := by rw [List.length_drop]; exact (half_le hz hz1 hk).2
      have hd9 := room_j hdp
      have hu9 := unit_j hun
      have hb1 := Int.lt_of_le_of_lt ha3 h2
      have hb2 := Int.lt_of_le_of_lt ha4 h2
      refine Stop.on ?_
      k_dflt (refine' use_L ?cD ?cB ?cF ?cX ?cN ?cT ?cK ?cd ?cu ?_; (case cB => k_asm); (case cF => k_asm); (case cX => k_asm); (case cN => k_asm); (case cT => k_asm); (case cD => exact (ih j (Nat.lt_succ_self j) (.head _) hI2 ha1 hb1 hl1 (Nat.le_of_succ_le hk100)) ); (case cK => first | exact rfl | assumption); (case cd => ktr_room); (case cu => ktr_units))
      intro r1 ws1 kr1 h_ tk_ F_ N_ lr1 hIr1
      skip
      (try dsimp only)
      k_sweep
      (try k_fold)
      k_steps
      refine Stop.on ?_
      k_dflt (refine Mine.sl_from (by k_asm) (by k_asm) (by k_memK) (by first | assumption | omega) (by omega) ?_ (by with_unfolding_all rfl) (by kmk_pure))
      intro D' h' F' N' l1
      (try k_lt l1)
      (try k_sweep)
      k_steps
      refine Stop.on ?_
      k_dflt (refine' use_L ?cD ?cB ?cF ?cX ?cN ?cT ?cK ?cd ?cu ?_; (case cB => k_asm); (case cF => k_asm); (case cX => k_asm); (case cN => k_asm); (case cT => k_asm); (case cD => exact (ih j (Nat.lt_succ_self j) (.head _) hI3 ha2 hb2 hl2 (Nat.le_of_succ_le hk100)) ); (case cK => first | exact rfl | assumption); (case cd => ktr_room); (case cu => ktr_units))
      intro r2 ws2 kr2 h_ tk_ F_ N_ lr2 hIr2
      skip
      (try dsimp only)
      k_sweep
      (try k_fold)
      k_steps
      refine Stop.on ?_
      k_dflt (refine' use_L ?cD ?cB ?cF ?cX ?cN ?cT ?cK ?cd ?cu ?_; (case cB => k_asm); (case cF => k_asm); (case cX => k_asm); (case cN => k_asm); (case cT => k_asm); (case cD => exact (f_mul (.tail _ (.tail _ (.head _))) (.head _) hIr1 hIr2 (nn1 ha5) (nn1 ha6) (dg_len hbs.1 400 _ (nn1 ha5) hb1) (dg_len hbs.1 400 _ (nn1 ha6) hb2) hp hp2) ); (case cK => first | exact rfl | assumption); (case cd => ktr_room); (case cu => ktr_units))
      intro r3 ws3 kr3 h_ tk_ F_ N_ lr3 hIr3
      skip
      (try dsimp only)
      k_sweep
      (try k_fold)
      k_steps
      rw [he] at hIr3
      exact end_L hret (by k_asm) (news_sub (by k_asm) (by kst_in)) (fun p hp => lr3 p (.tail _ (.tail _ (.tail _ (.tail _ hp))))) hIr3
end
section
theorem one_le_pow {S : Int} (h : 1 ≤ S) : ∀ k : Nat, 1 ≤ S ^ k
  | 0 => by rw [Int.pow_zero]; omega
  | k + 1 => by
    have := Int.mul_le_mul (one_le_pow h k) h (by omega) (by have := one_le_pow h k; omega)
    rw [Int.pow_succ]; omega
theorem pw_half {m : Int} (h : 0 < m) : 0 ≤ m.fdiv 2 ∧ m.fdiv 2 < m ∧ (m.fmod 2 = 0 ∨ m.fmod 2 = 1) ∧ m.toNat = 2 * (m.fdiv 2).toNat + (m.fmod 2).toNat := by
  obtain ⟨n, rfl⟩ := Int.eq_ofNat_of_zero_le (Int.le_of_lt h)
  rw [Int.fdiv_eq_ediv_of_nonneg _ (by decide), Int.fmod_eq_emod_of_nonneg _ (by decide)]
  exact ⟨Int.natCast_nonneg (n / 2), Int.ofNat_lt.mpr (Nat.div_lt_self (Int.ofNat_lt.mp h) (by decide)), (Nat.mod_two_eq_zero_or_one n).imp (congrArg Int.ofNat) (congrArg Int.ofNat), (Nat.div_add_mod n 2).symm⟩
theorem pw_odd {F S T m : Int} (h : 0 < m) (ho : m.fmod 2 = 1) (e : F * S ^ m.toNat = T) : (F * S) * (S * S) ^ (m.fdiv 2).toNat = T := by
  obtain ⟨_, _, _, h4⟩ := pw_half h
  rw [h4, ho, show (1 : Int).toNat = 1 from rfl] at e
  generalize (m.fdiv 2).toNat = k at *
  rw [← e, Int.pow_succ, Int.pow_mul, show S ^ 2 = S * S by rw [Int.pow_succ, Int.pow_succ, Int.pow_zero, Int.one_mul]]
  grind
theorem pw_even {F S T m : Int} (h : 0 < m) (ho : ¬ m.fmod 2 = 1) (e : F * S ^ m.toNat = T) : F * (S * S) ^ (m.fdiv 2).toNat = T := by
  obtain ⟨_, _, h3, h4⟩ := pw_half h
  have h0 : m.fmod 2 = 0 := h3.resolve_right ho
  rw [h4, h0, show (0 : Int).toNat = 0 from rfl, Nat.add_zero] at e
  rw [← e, Int.pow_mul, show S ^ 2 = S * S by rw [Int.pow_succ, Int.pow_succ, Int.pow_zero, Int.one_mul]]
theorem even_pos {m : Int} (h : 0 < m) (ho : ¬ m.fmod 2 = 1) : 0 < (m.fdiv 2).toNat := by
  obtain ⟨_, _, h3, h4⟩ := pw_half h
  rw [h3.resolve_right ho] at h4
  refine Nat.pos_of_ne_zero fun z => ?_
  rw [z] at h4
  exact absurd (tn_pos h) (by rw [h4]; decide)
theorem pw_stop {F S T m : Int} (h : ¬ 0 < m) (e : F * (S * S) ^ m.toNat = T) : F * S ^ m.toNat = T := by
  have hz : m.toNat = 0 := by omega
  rw [hz, Int.pow_zero] at e ⊢
  exact e
theorem pw_bound {F S T : Int} {k : Nat} (hF : 1 ≤ F) (hS : 1 ≤ S) (e : F * S ^ k = T) : F ≤ T ∧ (0 < k → S ≤ T) := by
  have hk := one_le_pow hS k
  refine ⟨by rw [← e]; exact mul_le_left hF hk, fun h => ?_⟩
  obtain ⟨j, rfl⟩ : ∃ j, k = j + 1 := ⟨k - 1, by omega⟩
  have h1 : S ≤ S ^ (j + 1) := by rw [Int.pow_succ]; exact mul_le_right (one_le_pow hS j) hS
  have h2 := mul_le_right hF hk
  omega
theorem f_power_of_count {w : World} {mean : ExcName → Option Value} {mg mb : Str → Option Value} {news : Led} {p x e : Int} {tp tx te : Tok} (hp : 3 ≤ p) (hp2 : p ≤ 9) (hx : 1 ≤ x) (he : 0 ≤ e) (hxb : x < 2 ^ 400) (hb : x ^ e.toNat < 2 ^ 400) :
   Does w mean mg mb 102 [.int x tx, .int e te, .int p tp, .ref 170] news 4 24 (IsL (dg (2 ^ p.toNat) (x ^ e.toNat))) := by
  w_top off
  unfold Does
  k_fill
  intro dp un gd cn cs a ccd cl outer A₀ base h₀ L m s Q E B F X N T hk hdp hun hret
  refine wpAny_call ?_
  k_dflt (refine' code_def (binds := [(Str.ofString "base", Value.int x tx), (Str.ofString "many", Value.int e te), (Str.ofString "w", Value.int p tp), (Str.ofString "mul", Value.ref 170)]) ?k1 ?k2 ?k3 ?k4 ?k5 ?kA ?kF ?kK ?k6 ?k7 ?k8 ?k9 ?kB ?_ ?c2 ?c3 ?c4 ?c5; (case kA => exact rfl); (case kF => exact rfl); (case kK => assumption); (case k1 => k_asm); (case k2 => k_asm); (case k3 => k_asm); (case k4 => k_asm); (case k5 => k_asm); (case k6 => k_is); (case k7 => k_is); (case k8 => ktr_room); (case k9 => exact BindsTo.of_eq rfl); (case c5 => decide); (case kB => exact locs rfl); (case c2 => exact rfl); (case c3 => exact rfl); (case c4 => exact rfl); k_whole; intro g' L' h' FG' F' N' B' X' T'; (try dsimp only); (try k_fold))
  replace F' := frB F'
  dsimp only [kstB, List.reverse, List.reverseAux] at F'
  refine fold_m F' ?_; clear F'; intro m1 F'
  refine fold_A ?_; intro A1
  refine gen_tk ?_; intro tk1
  have hbs := base_ge hp hp2
  have kMark := kstMark
  k_steps
  refine Stop.on ?_
  k_dflt (refine' use_L ?cD ?cB ?cF ?cX ?cN ?cT ?cK ?cd ?cu ?_; (case cB => k_asm); (case cF => k_asm); (case cX => k_asm); (case cN => k_asm); (case cT => k_asm); (case cD => exact (f_nat_of (nn1 hx) hp hp2 (Nat.le_trans (dg_len hbs.1 400 _ (nn1 hx) hxb) (by decide))) ); (case cK => first | exact rfl | assumption); (case cd => ktr_room); (case cu => ktr_units))
  intro r ws kr h_ tk_ F_ N_ lr hIr
  skip
  (try dsimp only)
  k_sweep
  (try k_fold)
  k_steps
  refine Stop.on ?_
  rename Fr _ _ _ _ => F1
  rename News _ _ _ _ => N1
  rename r < _ ∧ _ => lt9
  rename ∀ q ∈ news, _ => lt8
  refine wh (σ := Addr × List Value × Nat × Int × Addr × List Value × Nat × Int × Int × Tok) (fun c => (c.1, listOf c.2.1.toArray c.2.2.1) :: (c.2.2.2.2.1, listOf c.2.2.2.2.2.1.toArray c.2.2.2.2.2.2.1) :: news) (fun c => [(Str.ofString "found", .ref c.1), (Str.ofString "square", .ref c.2.2.2.2.1), (Str.ofString "many", .int c.2.2.2.2.2.2.2.2.1 c.2.2.2.2.2.2.2.2.2)]) []
    (fun c => IntsAre c.2.1 (dg (2 ^ p.toNat) c.2.2.2.1) ∧ IntsAre c.2.2.2.2.2.1 (dg (2 ^ p.toNat) c.2.2.2.2.2.2.2.1) ∧ (∀ q ∈ news, q.1 < c.1) ∧ (∀ q ∈ news, q.1 < c.2.2.2.2.1) ∧ 1 ≤ c.2.2.2.1 ∧ 1 ≤ c.2.2.2.2.2.2.2.1 ∧ c.2.2.2.2.2.2.2.1 < 2 ^ 400 ∧ 0 ≤ c.2.2.2.2.2.2.2.2.1 ∧ c.2.2.2.1 * c.2.2.2.2.2.2.2.1 ^ c.2.2.2.2.2.2.2.2.1.toNat = x ^ e.toNat)
    (fun c => c.2.2.2.2.2.2.2.2.1.toNat) (_, [_], 0, 1, r, ws, kr, x, e, te) F1 (news_sub N1 (by kst_in)) (by kst_all)
    ⟨by show IntsAre _ (dg _ 1); rw [dg_one hbs.1]; exact .cons _ _ .nil, hIr, lt8, fun q hq => lr q (.tail _ hq), Int.le_refl _, hx, hxb, he, Int.one_mul _⟩ ?_
  refine fa10 fun fa fv fk fx sa sv sk sx m tm => ?_
  intro u h tk hP F2 N2 K kr kb fin kc
  dsimp only [kstB] at hP F2 N2 fin
  have hI1 := hP.1
  have hI2 := hP.2.1
  have hl1 := hP.2.2.1
  have hl2 := hP.2.2.2.1
  have hf := hP.2.2.2.2.1
  have hs := hP.2.2.2.2.2.1
  have hsb := hP.2.2.2.2.2.2.1
  have hm := hP.2.2.2.2.2.2.2.1
  have hE := hP.2.2.2.2.2.2.2.2
  clear hP
  refine fold_m (L := L') F2 ?_; clear F2; intro m2 F2
  show wpAny _ _ _ _ _ { s with heap := h, toks := tk }
  (try k_fold)
  have hB := pw_bound hf hs hE
  k_steps
  · rename 0 < m => hpos
    rename m.fmod 2 = 1 => hodd
    have hE2 := pw_odd hpos hodd hE
    have hfs : 1 ≤ fx * sx := Int.le_trans hf (mul_le_left hf hs)
    have hss : 1 ≤ sx * sx := Int.le_trans hs (mul_le_left hs hs)
    have hB2 := pw_bound hfs hss hE2
    have hh := pw_half hpos
    refine Stop.on ?_
    k_dflt (refine' use_L ?cD ?cB ?cF ?cX ?cN ?cT ?cK ?cd ?cu ?_; (case cB => k_asm); (case cF => k_asm); (case cX => k_asm); (case cN => k_asm); (case cT => k_asm); (case cD => exact (f_mul (.head _) (.tail _ (.head _)) hI1 hI2 (nn1 hf) (nn1 hs) (dg_len hbs.1 400 _ (nn1 hf) (Int.lt_of_le_of_lt hB.1 hb)) (dg_len hbs.1 400 _ (nn1 hs) hsb) hp hp2) ); (case cK => first | exact rfl | assumption); (case cd => ktr_room); (case cu => ktr_units))
    intro r3 ws3 kr3 h_ tk_ F_ N_ lr3 hIr3
    skip
    (try dsimp only)
    k_sweep
    (try k_fold)
    k_steps
    · rename 0 < m.fdiv 2 => hpos2
      have hB3 := hB2.2 (tn_pos hpos2)
      refine Stop.on ?_
      k_dflt (refine' use_L ?cD ?cB ?cF ?cX ?cN ?cT ?cK ?cd ?cu ?_; (case cB => k_asm); (case cF => k_asm); (case cX => k_asm); (case cN => k_asm); (case cT => k_asm); (case cD => exact (f_mul (.tail _ (.tail _ (.head _))) (.tail _ (.tail _ (.head _))) hI2 hI2 (nn1 hs) (nn1 hs) (dg_len hbs.1 400 _ (nn1 hs) hsb) (dg_len hbs.1 400 _ (nn1 hs) hsb) hp hp2) ); (case cK => first | exact rfl | assumption); (case cd => ktr_room); (case cu => ktr_units))
      intro r4 ws4 kr4 h_ tk_ F_ N_ lr4 hIr4
      skip
      (try dsimp only)
      k_sweep
      (try k_fold)
      k_steps
      rename Fr _ _ _ _ => F3
      rename News _ _ _ _ => N3
      refine fin ⟨r3, ws3, kr3, fx * sx, r4, ws4, kr4, sx * sx, m.fdiv 2, _⟩ _ _ _ _ F3 N3 (by kst_in) (by kst_all) (by dsimp only [m2]; ksw_same) ⟨hIr3, hIr4, fun q hq => lr3 q (.tail _ (.tail _ hq)), fun q hq => lr4 q (.tail _ (.tail _ (.tail _ hq))), hfs, hss, Int.lt_of_le_of_lt hB3 hb, hh.1, hE2⟩ (tn_lt hpos hh.2.1)
    · rename ¬ 0 < m.fdiv 2 => hpos2
      rename Fr _ _ _ _ => F3
      rename News _ _ _ _ => N3
      refine fin ⟨r3, ws3, kr3, fx * sx, sa, sv, sk, sx, m.fdiv 2, _⟩ _ _ _ _ F3 N3 (by kst_in) (by kst_all) (by dsimp only [m2]; ksw_same) ⟨hIr3, hI2, fun q hq => lr3 q (.tail _ (.tail _ hq)), hl2, hfs, hs, hsb, hh.1, pw_stop hpos2 hE2⟩ (tn_lt hpos hh.2.1)
  · rename 0 < m => hpos
    rename m.fmod 2 ≠ 1 => heven
    have hE2 := pw_even hpos heven hE
    have hss : 1 ≤ sx * sx := Int.le_trans hs (mul_le_left hs hs)
    have hB2 := pw_bound hf hss hE2
    have hh := pw_half hpos
    have hB3 := hB2.2 (even_pos hpos heven)
    refine Stop.on ?_
    k_dflt (refine' use_L ?cD ?cB ?cF ?cX ?cN ?cT ?cK ?cd ?cu ?_; (case cB => k_asm); (case cF => k_asm); (case cX => k_asm); (case cN => k_asm); (case cT => k_asm); (case cD => exact (f_mul (.tail _ (.head _)) (.tail _ (.head _)) hI2 hI2 (nn1 hs) (nn1 hs) (dg_len hbs.1 400 _ (nn1 hs) hsb) (dg_len hbs.1 400 _ (nn1 hs) hsb) hp hp2) ); (case cK => first | exact rfl | assumption); (case cd => ktr_room); (case cu => ktr_units))
    intro r4 ws4 kr4 h_ tk_ F_ N_ lr4 hIr4
    skip
    (try dsimp only)
    k_sweep
    (try k_fold)
    k_steps
    rename Fr _ _ _ _ => F3
    rename News _ _ _ _ => N3
    refine fin ⟨fa, fv, fk, fx, r4, ws4, kr4, sx * sx, m.fdiv 2, _⟩ _ _ _ _ F3 N3 (by kst_in) (by kst_all) (by dsimp only [m2]; ksw_same) ⟨hI1, hIr4, hl1, fun q hq => lr4 q (.tail _ (.tail _ hq)), hf, hss, Int.lt_of_le_of_lt hB3 hb, hh.1, hE2⟩ (tn_lt hpos hh.2.1)
  · rename ¬ 0 < m => hpos
    rw [Int.toNat_of_nonpos (Int.not_lt.mp hpos), Int.pow_zero, Int.mul_one] at hE
    rw [hE] at hI1
    exact end_L hret (by k_asm) (news_sub (by k_asm) (by kst_in)) hl1 hI1
end
section
noncomputable abbrev tup2 (x e : Int) (t1 t2 : Tok) : Obj := { cls := .type "tuple", data := .seq #[.int x t1, .int e t2] }
noncomputable def PairsAre (news : Led) : List Value → List (Int × Int) → Prop
  | [], [] => True
  | v :: vs, q :: ps => (∃ a t1 t2, v = .ref a ∧ (a, tup2 q.1 q.2 t1 t2) ∈ news) ∧ PairsAre news vs ps
  | _, _ => False
theorem PairsAre.length {news : Led} : ∀ {vs : List Value} {ps : List (Int × Int)}, PairsAre news vs ps → vs.length = ps.length
  | [], [], _ => rfl
  | [], _ :: _, h => h.elim
  | _ :: _, [], h => h.elim
  | _ :: _, _ :: _, h => congrArg (· + 1) (PairsAre.length h.2)
theorem PairsAre.mono {news news' : Led} (hs : ∀ p ∈ news, p ∈ news') : ∀ {vs : List Value} {ps : List (Int × Int)}, PairsAre news vs ps → PairsAre news' vs ps
  | [], [], _ => trivial
  | [], _ :: _, h => h.elim
  | _ :: _, [], h => h.elim
  | _ :: _, _ :: _, h => ⟨let ⟨a, t1, t2, e, hm⟩ := h.1; ⟨a, t1, t2, e, hs _ hm⟩, PairsAre.mono hs h.2⟩
theorem PairsAre.take {news : Led} : ∀ (k : Nat) {vs : List Value} {ps : List (Int × Int)}, PairsAre news vs ps → PairsAre news (vs.take k) (ps.take k)
  | 0, _, _, _ => trivial
  | _ + 1, [], [], _ => trivial
  | _ + 1, [], _ :: _, h => h.elim
  | _ + 1, _ :: _, [], h => h.elim
  | k + 1, _ :: _, _ :: _, h => ⟨h.1, PairsAre.take k h.2⟩
theorem PairsAre.drop {news : Led} : ∀ (k : Nat) {vs : List Value} {ps : List (Int × Int)}, PairsAre news vs ps → PairsAre news (vs.drop k) (ps.drop k)
  | 0, _, _, h => h
  | _ + 1, [], [], _ => trivial
  | _ + 1, [], _ :: _, h => h.elim
  | _ + 1, _ :: _, [], h => h.elim
  | k + 1, _ :: _, _ :: _, h => PairsAre.drop k h.2
theorem PairsAre.snoc {news : Led} {v : Value} {q : Int × Int} (hv : ∃ a t1 t2, v = .ref a ∧ (a, tup2 q.1 q.2 t1 t2) ∈ news) : ∀ {vs : List Value} {ps : List (Int × Int)}, PairsAre news vs ps → PairsAre news (vs ++ [v]) (ps ++ [q])
  | [], [], _ => ⟨hv, trivial⟩
  | [], _ :: _, h => h.elim
  | _ :: _, [], h => h.elim
  | _ :: _, _ :: _, h => ⟨h.1, PairsAre.snoc hv h.2⟩
noncomputable def pws (ps : List (Int × Int)) : List Int := ps.map fun q => q.1 ^ q.2.toNat
theorem pws_ok {ps : List (Int × Int)} (h : ∀ q ∈ ps, 1 ≤ q.1 ∧ 1 ≤ q.2) : ∀ c ∈ pws ps, 1 ≤ c := by
  intro c hc
  obtain ⟨q, hq, rfl⟩ := List.mem_map.mp hc
  exact one_le_pow (h q hq).1 _
theorem f_product_of_powers {w : World} {mean : ExcName → Option Value} {mg mb : Str → Option Value} {p : Int} {tp : Tok} (hp : 3 ≤ p) (hp2 : p ≤ 9) : ∀ (k : Nat) {news : Led} {l : Addr} {vs : List Value} {n : Nat} {ps : List (Int × Int)} (hl : (l, listOf vs.toArray n) ∈ news) (hI : PairsAre news vs ps) (h1 : ∀ q ∈ ps, 1 ≤ q.1 ∧ 1 ≤ q.2) (h2 : prd (pws ps) < 2 ^ 400) (hk : ps.length ≤ k) (hk100 : k ≤ 100),
   Does w mean mg mb 109 [.ref l, .int p tp, .ref 170] news (k + 5) (4 * k + 32) (IsL (dg (2 ^ p.toNat) (prd (pws ps)))) := by
  intro k
  induction k using Nat.strongRecOn with
  | ind k ih =>
    intro news l vs n ps hl hI h1 h2 hk hk100
    have kMark := kstMark
    have hvl := hI.length
    have hh1 := (half_at ps.length).1
    have hbs := base_ge hp hp2
    by_cases hc1 : ps.length = 1
    · obtain ⟨⟨x, e⟩, hps⟩ := List.length_eq_one_iff.mp hc1
      subst hps
      obtain ⟨v, hvs⟩ := List.length_eq_one_iff.mp hvl
      subst hvs
      obtain ⟨⟨ta, t1, t2, hv, hta⟩, _⟩ := hI
      subst hv
      dsimp only at hta
      have hx := h1 _ (.head _)
      have hpw : prd (pws [(x, e)]) = x ^ e.toNat := Int.mul_one _
      rw [hpw] at h2
      rw [hpw]
      replace hvl : [Value.ref ta].length = 1 := rfl
      have hxe : x ≤ x ^ e.toNat := by
        obtain ⟨j, hj⟩ : ∃ j, e.toNat = j + 1 := ⟨e.toNat - 1, by omega⟩
        rw [hj, Int.pow_succ]
        exact mul_le_right (one_le_pow hx.1 j) hx.1
      w_top off
      unfold Does
      k_fill
      intro dp un gd cn cs a ccd cl outer A₀ base h₀ L m s Q E B F X N T hk hdp hun hret
      refine wpAny_call ?_
      k_dflt (refine' code_def (binds := [(Str.ofString "pairs", Value.ref l), (Str.ofString "w", Value.int p tp), (Str.ofString "mul", Value.ref 170)]) ?k1 ?k2 ?k3 ?k4 ?k5 ?kA ?kF ?kK ?k6 ?k7 ?k8 ?k9 ?kB ?_ ?c2 ?c3 ?c4 ?c5; (case kA => exact rfl); (case kF => exact rfl); (case kK => assumption); (case k1 => k_asm); (case k2 => k_asm); (case k3 => k_asm); (case k4 => k_asm); (case k5 => k_asm); (case k6 => k_is); (case k7 => k_is); (case k8 => ktr_room); (case k9 => exact BindsTo.of_eq rfl); (case c5 => decide); (case kB => exact locs rfl); (case c2 => exact rfl); (case c3 => exact rfl); (case c4 => exact rfl); k_whole; intro g' L' h' FG' F' N' B' X' T'; (try dsimp only); (try k_fold))
      replace F' := frB F'
      dsimp only [kstB, List.reverse, List.reverseAux] at F'
      refine fold_m F' ?_; clear F'; intro m1 F'
      refine fold_A ?_; intro A1
      refine gen_tk ?_; intro tk1
      k_steps
      refine Stop.on ?_
      k_dflt (refine' use_L ?cD ?cB ?cF ?cX ?cN ?cT ?cK ?cd ?cu ?_; (case cB => k_asm); (case cF => k_asm); (case cX => k_asm); (case cN => k_asm); (case cT => k_asm); (case cD => exact (f_power_of_count hp hp2 hx.1 (nn1 hx.2) (Int.lt_of_le_of_lt hxe h2) h2) ); (case cK => first | exact rfl | assumption); (case cd => ktr_room); (case cu => ktr_units))
      intro r ws kr h_ tk_ F_ N_ lr hIr
      skip
      (try dsimp only)
      k_sweep
      (try k_fold)
      k_steps
      exact end_L hret (by k_asm) (by k_asm) lr hIr
    · have hc2 : (ps.length : Int) ≠ 1 := by omega
      w_top off
      unfold Does
      k_fill
      intro dp un gd cn cs a ccd cl outer A₀ base h₀ L m s Q E B F X N T hk hdp hun hret
      refine wpAny_call ?_
      k_dflt (refine' code_def (binds := [(Str.ofString "pairs", Value.ref l), (Str.ofString "w", Value.int p tp), (Str.ofString "mul", Value.ref 170)]) ?k1 ?k2 ?k3 ?k4 ?k5 ?kA ?kF ?kK ?k6 ?k7 ?k8 ?k9 ?kB ?_ ?c2 ?c3 ?c4 ?c5; (case kA => exact rfl); (case kF => exact rfl); (case kK => assumption); (case k1 => k_asm); (case k2 => k_asm); (case k3 => k_asm); (case k4 => k_asm); (case k5 => k_asm); (case k6 => k_is); (case k7 => k_is); (case k8 => ktr_room); (case k9 => exact BindsTo.of_eq rfl); (case c5 => decide); (case kB => exact locs rfl); (case c2 => exact rfl); (case c3 => exact rfl); (case c4 => exact rfl); k_whole; intro g' L' h' FG' F' N' B' X' T'; (try dsimp only); (try k_fold))
      replace F' := frB F'
      dsimp only [kstB, List.reverse, List.reverseAux] at F'
      refine fold_m F' ?_; clear F'; intro m1 F'
      refine fold_A ?_; intro A1
      refine gen_tk ?_; intro tk1
      k_steps
      · rename (ps.length : Int) = 0 => hz
        have hx : ps = [] := List.eq_nil_of_length_eq_zero (by omega)
        subst hx
        rename News _ _ _ (_ :: _) => N9
        exact end_L hret (by k_asm) (by k_asm) (by assumption) (by rw [show prd (pws []) = 1 from rfl, dg_one hbs.1]; exact .cons _ _ .nil)
      refine Stop.on ?_
      k_dflt (refine Mine.sl_upto (by k_asm) (by k_asm) (by k_memK) (by first | assumption | omega) (by omega) ?_ (by with_unfolding_all rfl) (by kmk_pure))
      intro D' h' F' N' l1
      (try k_lt l1)
      (try k_sweep)
      k_steps
      have hok := pws_ok h1
      obtain ⟨he, ha1, ha2, ha3, ha4, ha5, ha6⟩ := prd_split ((ps.length : Int).fdiv 2).toNat hok
      have e1 : (pws ps).take ((ps.length : Int).fdiv 2).toNat = pws (ps.take ((ps.length : Int).fdiv 2).toNat) := List.map_take.symm
      have e2 : (pws ps).drop ((ps.length : Int).fdiv 2).toNat = pws (ps.drop ((ps.length : Int).fdiv 2).toNat) := List.map_drop.symm
      rw [e1, e2] at he
      rw [e1] at ha1 ha3 ha5
      rw [e2] at ha2 ha4 ha6
      rename (ps.length : Int) ≠ 0 => hz
      obtain ⟨j, rfl⟩ : ∃ j, k = j + 1 := ⟨k - 1, by omega⟩
      have hl1 : (ps.take ((ps.length : Int).fdiv 2).toNat).length ≤ j := by rw [List.length_take]; exact (half_le hz hc2 hk).1
      have hl2 : (ps.drop ((ps.length : Int).fdiv 2).toNat).length ≤ j := by rw [List.length_drop]; exact (half_le hz hc2 hk).2
      have hd9 := room_j hdp
      have hu9 := unit_j hun
      have hb1 := Int.lt_of_le_of_lt ha3 h2
      have hb2 := Int.lt_of_le_of_lt ha4 h2
      refine Stop.on ?_
      k_dflt (refine' use_L ?cD ?cB ?cF ?cX ?cN ?cT ?cK ?cd ?cu ?_; (case cB => k_asm); (case cF => k_asm); (case cX => k_asm); (case cN => k_asm); (case cT => k_asm); (case cD => exact (ih j (Nat.lt_succ_self j) (.head _) ((hI.take _).mono fun _ h => .tail _ h) (fun q hq => h1 q (List.mem_of_mem_take hq)) hb1 hl1 (Nat.le_of_succ_le hk100)) ); (case cK => first | exact rfl | assumption); (case cd => ktr_room); (case cu => ktr_units))
      intro r1 ws1 kr1 h_ tk_ F_ N_ lr1 hIr1
      skip
      (try dsimp only)
      k_sweep
      (try k_fold)
      k_steps
      refine Stop.on ?_
      k_dflt (refine Mine.sl_from (by k_asm) (by k_asm) (by k_memK) (by first | assumption | omega) (by omega) ?_ (by with_unfolding_all rfl) (by kmk_pure))
      intro D' h' F' N' l1
      (try k_lt l1)
      (try k_sweep)
      k_steps
      refine Stop.on ?_
      k_dflt (refine' use_L ?cD ?cB ?cF ?cX ?cN ?cT ?cK ?cd ?cu ?_; (case cB => k_asm); (case cF => k_asm); (case cX => k_asm); (case cN => k_asm); (case cT => k_asm); (case cD => exact (ih j (Nat.lt_succ_self j) (.head _) ((hI.drop _).mono fun _ h => .tail _ (.tail _ (.tail _ h))) (fun q hq => h1 q (List.mem_of_mem_drop hq)) hb2 hl2 (Nat.le_of_succ_le hk100)) ); (case cK => first | exact rfl | assumption); (case cd => ktr_room); (case cu => ktr_units))
      intro r2 ws2 kr2 h_ tk_ F_ N_ lr2 hIr2
      skip
      (try dsimp only)
      k_sweep
      (try k_fold)
      k_steps
      refine Stop.on ?_
      k_dflt (refine' use_L ?cD ?cB ?cF ?cX ?cN ?cT ?cK ?cd ?cu ?_; (case cB => k_asm); (case cF => k_asm); (case cX => k_asm); (case cN => k_asm); (case cT => k_asm); (case cD => exact (f_mul (.tail _ (.tail _ (.head _))) (.head _) hIr1 hIr2 (nn1 ha5) (nn1 ha6) (dg_len hbs.1 400 _ (nn1 ha5) hb1) (dg_len hbs.1 400 _ (nn1 ha6) hb2) hp hp2) ); (case cK => first | exact rfl | assumption); (case cd => ktr_room); (case cu => ktr_units))
      intro r3 ws3 kr3 h_ tk_ F_ N_ lr3 hIr3
      skip
      (try dsimp only)
      k_sweep
      (try k_fold)
      k_steps
      rw [he] at hIr3
      exact end_L hret (by k_asm) (news_sub (by k_asm) (by kst_in)) (fun p hp => lr3 p (.tail _ (.tail _ (.tail _ (.tail _ hp))))) hIr3
end
section
local macro_rules | `(tactic| walk_at "binaryOp Mult ref int") => `(tactic| refine Stop.out ?_)
theorem f_sieve {w : World} {mean : ExcName → Option Value} {mg mb : Str → Option Value} {news : Led} {n : Int} {tn : Tok} (hn : 0 ≤ n) (hn2 : n ≤ 22) :
   Does w mean mg mb 81 [.int n tn] news 2 16 (IsL (pr n)) := by
  w_top off
  unfold Does
  k_fill
  intro dp un gd cn cs a ccd cl outer A₀ base h₀ L m s Q E B F X N T hk hdp hun hret
  refine wpAny_call ?_
  k_dflt (refine' code_def (binds := [(Str.ofString "n", Value.int n tn)]) ?k1 ?k2 ?k3 ?k4 ?k5 ?kA ?kF ?kK ?k6 ?k7 ?k8 ?k9 ?kB ?_ ?c2 ?c3 ?c4 ?c5; (case kA => exact rfl); (case kF => exact rfl); (case kK => assumption); (case k1 => k_asm); (case k2 => k_asm); (case k3 => k_asm); (case k4 => k_asm); (case k5 => k_asm); (case k6 => k_is); (case k7 => k_is); (case k8 => ktr_room); (case k9 => exact BindsTo.of_eq rfl); (case c5 => decide); (case kB => exact locs rfl); (case c2 => exact rfl); (case c3 => exact rfl); (case c4 => exact rfl); k_whole; intro g' L' h' FG' F' N' B' X' T'; (try dsimp only); (try k_fold))
  replace F' := frB F'
  dsimp only [kstB, List.reverse, List.reverseAux] at F'
  refine fold_m F' ?_; clear F'; intro m1 F'
  refine fold_A ?_; intro A1
  refine gen_tk ?_; intro tk1
  have kMark := kstMark
  k_steps
  refine Stop.on ?_
  k_dflt (refine' kbo_mul (vs := [.bool true]) (bs := [true]) ?zf ?zn ?zl ?zb ?zh1 ?zh2 ?zs ?_; (case zf => k_asm); (case zn => k_asm); (case zl => exact News.isList (by k_asm) (.head _)); (case zb => exact .cons _ .nil); (case zh1 => omega); (case zh2 => omega); (case zs => show 1 * _ ≤ _; omega))
  intro D h9 F9 N9 lt1 i1 n1 s1 e1 e2 e3 e4
  (try k_lt lt1)
  k_steps
  refine Stop.on ?_
  rename Fr _ _ _ _ => F1
  rename News _ _ _ _ => N1
  rename IsRange _ _ _ _ _ _ _ _ => hR
  rename LSm.BoolsAre _ _ => hB0
  rename_i _ _ l _ lt2 _ _ _ _ _ _ _ _ _
  have hL := svF_len n
  refine range_inv (σ := List Value × List Bool × List Value × List Int × Nat) (fun c => (l, listOf c.2.2.1.toArray c.2.2.2.2) :: (D, listOf c.1.toArray 0) :: news) (fun _ => []) [Str.ofString "one", Str.ofString "many"] (fun i c => LSm.BoolsAre c.1 c.2.1 ∧ IntsAre c.2.2.1 c.2.2.2.1 ∧ c.2.1 = (svF n i).1 ∧ c.2.2.2.1 = (svF n i).2) (_, _, [], [], 0) rfl hR (small_sv (by decide) (by decide) (Int.le_add_one hn) (Int.lt_of_le_of_lt (Int.add_le_add_right hn2 1) (by decide)) (by decide) (by decide)) (rangeSize_toNat _ _ _) (fun _ => rfl) F1 (news_sub N1 (by kst_in)) (fun _ h => nomatch h) ⟨hB0, .nil, rfl, rfl⟩ ?_ ?_
  · refine fun i => fa5 fun bv bs wv xs k => ?_
    intro t u h tk I o hi hP hoff F2 N2 K kr kb fin kc
    dsimp only [kstB] at hP hoff F2 N2 fin
    have hB := hP.1
    have hI := hP.2.1
    have he1 := hP.2.2.1
    have he2 := hP.2.2.2
    clear hP
    have hii := rs_lt (by decide) hi
    have hD1 : I ≠ l := hoff _ (.head _) _ (.head _)
    have hD2 : I ≠ D := hoff _ (.head _) _ (.tail _ (.head _))
    have hD3 : D ≠ l := Nat.ne_of_lt lt2.1
    have hbl : bs.length = (n + 1).toNat := by rw [he1]; exact (hL i).1
    have hbv := hB.length
    have hxl : xs.length ≤ i := by rw [he2]; exact (hL i).2
    have hwl := hI.length
    refine fold_m (L := L') F2 ?_; clear F2; intro m2 F2
    show wpAny _ _ _ _ _ { s with heap := h, toks := tk }
    (try k_fold)
    refine fold_N (L := L') N2 ?_; clear N2; intro N2
    k_steps
    · refine Stop.on ?_
      rename Fr _ _ _ _ => F3
      rename News _ _ _ _ => N3
      rename IsRange _ _ _ _ _ _ _ _ => hR3
      rename bs.getD _ _ = true => hb
      simp only [List.push_toArray] at N3
      have hx0 : 0 < 2 + (i : Int) * 1 := by omega
      have h23 : 2 + (i : Int) * 1 ≤ 23 := by omega
      have hxx : 0 ≤ (2 + (i : Int) * 1) * (2 + (i : Int) * 1) := Int.mul_nonneg (Int.le_of_lt hx0) (Int.le_of_lt hx0)
      have hxx2 : (2 + (i : Int) * 1) * (2 + (i : Int) * 1) ≤ 23 * 23 := Int.mul_le_mul h23 h23 (Int.le_of_lt hx0) (by decide)
      have hbs0 : markF bs (2 + (i : Int) * 1) 0 = bs := rfl
      have hI2 := hI.append (.cons (2 + (i : Int) * 1) t .nil)
      refine range_inv (σ := List Value × List Bool) (fun c => (I, o) :: (l, listOf (wv ++ [Value.int (2 + (i : Int) * 1) t]).toArray (k + 1)) :: (D, listOf c.1.toArray 0) :: news) (fun _ => []) [Str.ofString "many"] (fun j c => LSm.BoolsAre c.1 c.2 ∧ c.2 = markF bs (2 + (i : Int) * 1) j) (_, _) rfl hR3 (small_sv hxx (Int.lt_of_le_of_lt hxx2 (by decide)) (Int.le_add_one hn) (Int.lt_of_le_of_lt (Int.add_le_add_right hn2 1) (by decide)) hx0 (Int.lt_of_le_of_lt h23 (by decide))) (rangeSize_toNat _ _ _) (fun _ => rfl) F3 N3 (fun _ h => nomatch h) ⟨hB, rfl⟩ ?_ ?_
      · refine fun j => fa2 fun cv cs2 => ?_
        intro t2 u2 h2 tk2 I2 o2 hj hP2 hoff2 F4 N4 K2 kr2 kb2 fin2 kc2
        dsimp only [kstB] at hP2 hoff2 F4 N4 fin2
        have hC := hP2.1
        have hc1 := hP2.2
        clear hP2
        have hjj := rs_lt hx0 hj
        have hjx : 0 ≤ (j : Int) * (2 + (i : Int) * 1) := Int.mul_nonneg (Int.natCast_nonneg j) (Int.le_of_lt hx0)
        have hD4 : I2 ≠ D := hoff2 _ (.head _) _ (.tail _ (.tail _ (.head _)))
        have hcl : cs2.length = (n + 1).toNat := by rw [hc1, markF_len]; exact hbl
        have hcv := hC.length
        refine fold_m (L := L') F4 ?_; clear F4; intro m4 F4
        show wpAny _ _ _ _ _ { s with heap := h2, toks := tk2 }
        (try k_fold)
        refine fold_N (L := L') N4 ?_; clear N4; intro N4
        k_steps
        rename Fr _ _ _ _ => F5
        rename News _ _ _ _ => N5
        rename LSm.BoolsAre (cv.set _ _) _ => hC5
        exact fin2 ⟨_, _⟩ _ _ _ _ F5 N5 (by kst_in) (by kst_in) (fun _ h => nomatch h) (by dsimp only [m4]; ksw_same) ⟨hC5, by show _ = markF bs _ (j + 1); rw [markF, ← hc1]⟩
      · refine fa2 fun cv cs2 => ?_
        intro u2 h2 tk2 hP2 F4 N4
        dsimp only [kstB] at hP2 F4 N4
        have hC := hP2.1
        have hc1 := hP2.2
        clear hP2
        refine fold_m (L := L') F4 ?_; clear F4; intro m4 F4
        refine fold_N (L := L') N4 ?_; clear N4; intro N4
        k_steps
        rename Fr _ _ _ _ => F5
        rename News _ _ _ _ => N5
        have hye : (svF n i).1.getD (2 + (i : Int) * 1).toNat false = true := by rw [← he1, hb]
        exact fin ⟨cv, cs2, _, _, _⟩ _ _ _ _ F5 N5 (by kst_in) (by kst_in) (fun _ h => nomatch h) (by dsimp only [m4, m2]; ksw_same) ⟨hC, hI2, by show cs2 = (svF n (i + 1)).1; rw [svF, if_pos hye, ← he1]; exact hc1, by show _ = (svF n (i + 1)).2; rw [svF, if_pos hye, ← he2]⟩
    · skip
      rename Fr _ _ _ _ => F3
      rename News _ _ _ _ => N3
      rename bs.getD _ _ = false => hb
      have hne : ¬ ((svF n i).1.getD (2 + (i : Int) * 1).toNat false) = true := by rw [← he1, hb]; decide
      exact fin ⟨bv, bs, wv, xs, k⟩ _ _ _ _ F3 N3 (by kst_in) (by kst_in) (fun _ h => nomatch h) (by dsimp only [m2]; ksw_same) ⟨hB, hI, by show bs = (svF n (i + 1)).1; rw [svF, if_neg hne]; exact he1, by show xs = (svF n (i + 1)).2; rw [svF, if_neg hne]; exact he2⟩
  · refine fa5 fun bv bs wv xs k => ?_
    intro u h tk hP F2 N2
    dsimp only [kstB] at hP F2 N2
    have hB := hP.1
    have hI := hP.2.1
    have he1 := hP.2.2.1
    have he2 := hP.2.2.2
    clear hP
    refine fold_m (L := L') F2 ?_; clear F2; intro m2 F2
    refine fold_N (L := L') N2 ?_; clear N2; intro N2
    k_steps
    rw [he2] at hI
    exact end_L hret (by k_asm) (news_sub (by k_asm) (by kst_in)) (kst_ltOf lt2.2.2) hI
end
section
local macro_rules | `(tactic| walk_at "exec Assign cons ListComp") => `(tactic| refine Stop.out ?_)
local macro_rules | `(tactic| walk_at "eval ListComp") => `(tactic| refine Stop.out ?_)
local macro_rules | `(tactic| walk_at "CompSrc") => `(tactic| refine Stop.out ?_)
local macro_rules | `(tactic| walk_at "CompSrcT") => `(tactic| refine Stop.out ?_)
local macro_rules | `(tactic| walk_at "CompEnd") => `(tactic| refine Stop.out ?_)
noncomputable def prs (n : Int) : List (Int × Int) := (pr n).map fun x => (x, sx n x)
theorem PairsAre.at {news : Led} : ∀ {vs : List Value} {ps : List (Int × Int)} {i : Nat} {v : Value}, PairsAre news vs ps → vs[i]? = some v → ∃ q, ps[i]? = some q ∧ ∃ a t1 t2, v = .ref a ∧ (a, tup2 q.1 q.2 t1 t2) ∈ news
  | [], [], _, _, _, h => by simp at h
  | [], _ :: _, _, _, h, _ => h.elim
  | _ :: _, [], _, _, h, _ => h.elim
  | v' :: _, q :: _, 0, v, h, e => by
    have e' : v' = v := by simpa using e
    subst e'
    exact ⟨q, rfl, h.1⟩
  | _ :: _, _ :: _, i + 1, v, h, e => by
    obtain ⟨q, hq, r⟩ := PairsAre.at (i := i) (v := v) h.2 (by simpa using e)
    exact ⟨q, by simpa using hq, r⟩
noncomputable def sws (n : Int) : List (Int × Int) := (prs n).filter fun q => decide (0 < q.2)
noncomputable def swv (n : Int) : Int := prd (pws (sws n))
theorem sws_all : ∀ n : Nat, n < 23 → (sws n).length ≤ 22 ∧ (∀ q ∈ sws n, 1 ≤ q.1 ∧ 1 ≤ q.2) ∧ swv n < 2 ^ 60 := by decide +kernel
theorem sws_ok {n : Int} (h0 : 0 ≤ n) (h1 : n ≤ 22) : (sws n).length ≤ 22 ∧ (∀ q ∈ sws n, 1 ≤ q.1 ∧ 1 ≤ q.2) ∧ swv n < 2 ^ 60 := by
  have h := sws_all n.toNat (tn_le h1)
  rw [Int.toNat_of_nonneg h0] at h
  exact h
theorem f_swing {w : World} {mean : ExcName → Option Value} {mg mb : Str → Option Value} {news : Led} {n p : Int} {tn tp : Tok} (hp : 3 ≤ p) (hp2 : p ≤ 9) (hn : 0 ≤ n) (hn2 : n ≤ 22) :
   Does w mean mg mb 121 [.int n tn, .int p tp, .ref 170] news 40 200 (IsL (dg (2 ^ p.toNat) (swv n))) := by
  w_top off
  unfold Does
  k_fill
  intro dp un gd cn cs a ccd cl outer A₀ base h₀ L m s Q E B F X N T hk hdp hun hret
  refine wpAny_call ?_
  k_dflt (refine' code_defC (binds := [(Str.ofString "n", Value.int n tn), (Str.ofString "w", Value.int p tp), (Str.ofString "mul", Value.ref 170)]) ?k1 ?k2 ?k3 ?k4 ?k5 ?kA ?kF ?kK ?k6 ?k7 ?k8 ?k9 ?kB ?kD ?_ ?c2 ?c3 ?c4; (case kA => exact rfl); (case kF => exact rfl); (case kK => first | exact rfl | assumption); (case k1 => k_asm); (case k2 => k_asm); (case k3 => k_asm); (case k4 => k_asm); (case k5 => k_asm); (case k6 => k_is); (case k7 => k_is); (case k8 => ktr_room); (case k9 => exact BindsTo.of_eq rfl); (case kB => exact rfl); (case kD => decide +kernel); (case c2 => exact rfl); (case c3 => exact rfl); (case c4 => exact rfl); k_whole; intro g' L' h' tk' cells' FG' F' N' Y' B' X' T' l1; (try k_lt l1); k_cells Y'; (try simp only [List.cons_append, List.nil_append] at N'); (try dsimp only); (try k_lift B'); (try k_fold))
  have kMark := kstMark
  k_steps
  refine Stop.on ?_
  k_dflt (refine LCg.Assign_ListComp_U (F₀ := by k_asm) (by rfl) (by with_unfolding_all rfl) (by with_unfolding_all rfl) (by decide) (by rfl) (by decide) (by rfl) (by rfl) (by rfl) ?_)
  k_steps
  refine Stop.on ?_
  k_dflt (refine' use_L ?cD ?cB ?cF ?cX ?cN ?cT ?cK ?cd ?cu ?_; (case cB => k_asm); (case cF => k_asm); (case cX => k_asm); (case cN => k_asm); (case cT => k_asm); (case cD => exact (f_sieve hn hn2) ); (case cK => first | exact rfl | assumption); (case cd => ktr_room); (case cu => ktr_units))
  intro r ws kr h_ tk_ F_ N_ lr hIr
  skip
  (try dsimp only)
  k_sweep
  (try k_fold)
  k_steps
  refine Stop.on ?_
  rename Obj => o'
  have hpl : (pr n).length ≤ 22 := pr_len hn hn2
  have hwl := hIr.length
  refine LCg.CompSrc.ledger (by rfl) (by k_asm) N_ (.head _) (size_le (by omega)) ?_
  intro gg
  refine comp_inv (fun i ys nw => (∀ p ∈ (r, listOf ws.toArray kr) :: (L' + 1, o') :: news, p ∈ nw) ∧ PairsAre nw ys ((prs n).take i)) (pr n).length ?_ ?_ _ 0 [] _ (by rw [List.size_toArray]; omega) ⟨fun _ h => h, trivial⟩
  · rintro i ys nw hi ⟨hsub, hPA⟩ v I oI C oC D m₂ h tk E' hv hC hx F2 N2 off ne
    obtain ⟨x, t, rfl, hx2⟩ := hIr.at i v (by simpa using hv)
    have hq1 := hsub _ (.head _)
    have hq2 := hsub _ (.tail _ (.head _))
    have hxr := pr_rng hn hn2 (List.mem_of_getElem? hx2)
    k_steps
    refine Stop.on ?_
    k_dflt (refine' use_I ?cD ?cB ?cF ?cX ?cN ?cT ?cK ?cd ?cu ?_; (case cB => k_asm); (case cF => k_asm); (case cX => k_asm); (case cN => k_asm); (case cT => k_asm); (case cD => exact (f_swing_exponent hn hxr.1 (by omega)) ); (case cK => first | exact rfl | assumption); (case cd => ktr_room); (case cu => ktr_units))
    intro t2 h_ tk_ F_ N_
    skip
    (try dsimp only)
    k_sweep
    (try k_fold)
    k_steps
    refine Stop.on ?_
    rename_i D2 _ F3 N3 lt3
    exact LCg.CompEnd.intro F3 N3 ((D2, tup2 x (sx n x) t t2) :: nw) (by kst_in) ⟨⟨Nat.ne_of_gt lt3.1, Nat.ne_of_gt lt3.2.1, Nat.ne_of_gt lt3.2.2.1⟩, off⟩ (Or.inr ⟨_, .tail _ hq1, rfl, _, rfl⟩)
      ⟨fun p hp => .tail _ (hsub p hp), by
        rw [List.take_add_one, show (prs n)[i]? = some (x, sx n x) by rw [prs, List.getElem?_map, hx2]; rfl]
        exact PairsAre.snoc (q := (x, sx n x)) ⟨D2, t, t2, rfl, .head _⟩ (hPA.mono fun _ h => .tail _ h)⟩
  · rintro ys nw ⟨hsub, hPA⟩
    rw [List.take_of_length_le (by rw [prs, List.length_map]; exact Nat.le_refl _)] at hPA
    have hyl := hPA.length
    have hpl2 : (prs n).length = (pr n).length := List.length_map ..
    k_steps
    refine Stop.on ?_
    k_dflt (refine LCt.ListComp_T (F₀ := by k_asm) (by with_unfolding_all rfl) (by decide) (by rfl) (by decide) (by rfl) ?_)
    k_steps
    refine Stop.on ?_
    rename_i D2 _ _ F3 N3 _
    refine LCt.CompSrcT.ledger (by rfl) F3 N3 (.head _) (size_le (by omega)) ?_
    intro gg2
    refine comp_invT (fun i zs nw2 => (∀ p ∈ (D2, LCg.lst ys) :: nw, p ∈ nw2) ∧ PairsAre nw2 zs (((prs n).take i).filter fun q => decide (0 < q.2))) (prs n).length ?_ ?_ _ 0 [] _ (by rw [List.size_toArray]; omega) ⟨fun _ h => h, trivial⟩
    · rintro i zs nw2 hi ⟨hsub2, hPA2⟩ v I oI C oC D m₂ h tk E' hv hC hx F4 N4 off ne
      obtain ⟨q, hq, a9, t1, t2, rfl, ha⟩ := hPA.at (by simpa using hv)
      have ha2 := hsub2 _ (.tail _ ha)
      have hD2 := hsub2 _ (.head _)
      k_steps
      · refine Stop.on ?_
        rename Fr _ _ _ _ => F5
        rename News _ _ _ _ => N5
        rename 0 < q.2 => hpos
        exact LCg.CompEnd.intro F5 N5 nw2 (fun _ h => h) off (Or.inr ⟨_, hD2, rfl, _, rfl⟩)
          ⟨hsub2, by
            rw [List.take_add_one, hq, List.filter_append]
            show PairsAre _ _ (_ ++ [q].filter _)
            rw [show [q].filter (fun q => decide (0 < q.2)) = [q] from List.filter_cons_of_pos (by simpa using hpos)]
            exact PairsAre.snoc (q := q) ⟨a9, t1, t2, rfl, ha2⟩ hPA2⟩
      · refine Stop.on ?_
        rename Fr _ _ _ _ => F5
        rename News _ _ _ _ => N5
        rename ¬ 0 < q.2 => hpos
        exact LCg.CompEnd.intro F5 N5 nw2 (fun _ h => h) off (Or.inr ⟨_, hD2, rfl, _, rfl⟩)
          ⟨hsub2, by
            rw [List.take_add_one, hq, List.filter_append]
            show PairsAre _ _ (_ ++ [q].filter _)
            rw [show [q].filter (fun q => decide (0 < q.2)) = [] from List.filter_cons_of_neg (by simpa using hpos), List.append_nil]
            exact hPA2⟩
    · rintro zs nw2 ⟨hsub2, hPA2⟩
      rw [List.take_length] at hPA2
      obtain ⟨hs1, hs2, hs3⟩ := sws_ok hn hn2
      k_steps
      refine Stop.on ?_
      k_dflt (refine' use_L ?cD ?cB ?cF ?cX ?cN ?cT ?cK ?cd ?cu ?_; (case cB => k_asm); (case cF => k_asm); (case cX => k_asm); (case cN => k_asm); (case cT => k_asm); (case cD => exact (f_product_of_powers hp hp2 22 (.head _) (hPA2.mono fun _ h => .tail _ h) hs2 (Int.lt_trans hs3 (by decide)) hs1 (by omega)) ); (case cK => first | exact rfl | assumption); (case cd => ktr_room); (case cu => ktr_units))
      intro r3 ws3 kr3 h_ tk_ F_ N_ lr3 hIr3
      skip
      (try dsimp only)
      k_sweep
      (try k_fold)
      k_steps
      exact end_L hret (by k_asm) (news_sub (by k_asm) (fun p hp => by
        rcases List.mem_cons.mp hp with rfl | hp
        · exact .head _
        · exact .tail _ (.tail _ (hsub2 _ (.tail _ (hsub _ (.tail _ (.tail _ hp)))))))) (fun p hp => lr3 p (.tail _ (hsub2 _ (.tail _ (hsub _ (.tail _ (.tail _ hp))))))) hIr3
end
section
noncomputable def upTo (a : Int) (n : Nat) : List Int := (List.range n).map fun (i : Nat) => a + (i : Int) * 1
noncomputable def fact (n : Int) : Int := prd (upTo 1 n.toNat)
theorem fact_all : ∀ n : Nat, n < 23 → 1 ≤ fact n ∧ fact n < 2 ^ 80 ∧ 1 ≤ swv n ∧ (2 ≤ n → fact ((n / 2 : Nat) : Int) * fact ((n / 2 : Nat) : Int) * swv n = fact n) := by decide +kernel
theorem fact_ok {n : Int} (h0 : 0 ≤ n) (h1 : n ≤ 22) : 1 ≤ fact n ∧ fact n < 2 ^ 80 ∧ 1 ≤ swv n ∧ (2 ≤ n → fact (n.fdiv 2) * fact (n.fdiv 2) * swv n = fact n) := by
  have h := fact_all n.toNat (tn_le h1)
  rw [← fdiv2_nat h0, Int.toNat_of_nonneg h0] at h
  refine ⟨h.1, h.2.1, h.2.2.1, fun hn => h.2.2.2 ((Int.le_toNat h0).mpr hn)⟩
theorem half_of {n : Int} (h : 0 ≤ n) : 0 ≤ n.fdiv 2 ∧ 2 * n.fdiv 2 ≤ n ∧ n ≤ 2 * n.fdiv 2 + 1 := by
  obtain ⟨m, rfl⟩ := Int.eq_ofNat_of_zero_le h
  rw [Int.fdiv_eq_ediv_of_nonneg _ (by decide)]
  refine ⟨Int.natCast_nonneg (m / 2), Int.ofNat_le.mpr (Nat.mul_div_le m 2), Int.ofNat_le.mpr (?_ : m ≤ 2 * (m / 2) + 1)⟩
  have z := Nat.add_le_add_left (Nat.le_of_lt_succ (Nat.mod_lt m (show 0 < 2 by decide))) (2 * (m / 2))
  rwa [Nat.div_add_mod] at z
theorem half_j {n h : Int} {j : Nat} (h1 : 2 * h ≤ n) (h2 : n ≤ ((j + 1 : Nat) : Int)) (h3 : ¬ n < 2) : h ≤ (j : Int) := by omega
theorem half_self {n q : Int} (h : 0 ≤ q) (h2 : 2 * q ≤ n) : q ≤ n := by omega
theorem two_of {n : Int} (h : ¬ n < 2) : 2 ≤ n := Int.not_lt.mp h
theorem f_factorial {w : World} {mean : ExcName → Option Value} {mg mb : Str → Option Value} {p : Int} {tp : Tok} (hp : 3 ≤ p) (hp2 : p ≤ 9) : ∀ (k : Nat) {news : Led} {n : Int} {tn : Tok} (_hn : 0 ≤ n) (_hk : n ≤ k) (_hk2 : k ≤ 22),
   Does w mean mg mb 128 [.int n tn, .int p tp, .ref 170] news (k + 45) (4 * k + 220) (IsL (dg (2 ^ p.toNat) (fact n))) := by
  intro k
  induction k using Nat.strongRecOn with
  | ind k ih =>
  intro news n tn hn hk hk2
  w_top off
  unfold Does
  k_fill
  intro dp un gd cn cs a ccd cl outer A₀ base h₀ L m s Q E B F X N T hk hdp hun hret
  refine wpAny_call ?_
  k_dflt (refine' code_def (binds := [(Str.ofString "n", Value.int n tn), (Str.ofString "w", Value.int p tp), (Str.ofString "mul", Value.ref 170)]) ?k1 ?k2 ?k3 ?k4 ?k5 ?kA ?kF ?kK ?k6 ?k7 ?k8 ?k9 ?kB ?_ ?c2 ?c3 ?c4 ?c5; (case kA => exact rfl); (case kF => exact rfl); (case kK => assumption); (case k1 => k_asm); (case k2 => k_asm); (case k3 => k_asm); (case k4 => k_asm); (case k5 => k_asm); (case k6 => k_is); (case k7 => k_is); (case k8 => ktr_room); (case k9 => exact BindsTo.of_eq rfl); (case c5 => decide); (case kB => exact locs rfl); (case c2 => exact rfl); (case c3 => exact rfl); (case c4 => exact rfl); k_whole; intro g' L' h' FG' F' N' B' X' T'; (try dsimp only); (try k_fold))
  replace F' := frB F'
  dsimp only [kstB, List.reverse, List.reverseAux] at F'
  refine fold_m F' ?_; clear F'; intro m1 F'
  refine fold_A ?_; intro A1
  refine gen_tk ?_; intro tk1
  have kMark := kstMark
  have hbs := base_ge hp hp2
  obtain ⟨hf1, hf2, hf3, hf4⟩ := fact_ok hn (by omega)
  have hhalf := half_of (show 0 ≤ n from hn)
  k_steps
  refine Stop.on ?_
  k_dflt (refine' use_N ?cD ?cB ?cF ?cX ?cN ?cT ?cK ?cd ?cu ?_; (case cB => k_asm); (case cF => k_asm); (case cX => k_asm); (case cN => k_asm); (case cT => k_asm); (case cD => exact (f_need_count hn) ); (case cK => first | exact rfl | assumption); (case cd => ktr_room); (case cu => ktr_units))
  intro h_ tk_ F_ N_
  skip
  (try dsimp only)
  k_sweep
  (try k_fold)
  k_steps
  · rename n < 2 => hlt
    have hz : fact n = 1 := by
      have : n = 0 ∨ n = 1 := by omega
      rcases this with rfl | rfl <;> rfl
    rename News _ _ _ (_ :: _) => N9
    exact end_L hret (by k_asm) (by k_asm) (by assumption) (by rw [hz, dg_one hbs.1]; exact .cons _ _ .nil)
  · rename ¬ n < 2 => hge
    obtain ⟨j, rfl⟩ : ∃ j, k = j + 1 := ⟨k - 1, by omega⟩
    have hj := half_j hhalf.2.1 hk hge
    have hj2 := Nat.le_of_succ_le hk2
    obtain ⟨hg1, hg2, _, _⟩ := fact_ok (n := n.fdiv 2) hhalf.1 (Int.le_trans hj (Int.ofNat_le.mpr hj2))
    have hd9 := room_j hdp
    have hu9 := unit_j hun
    refine Stop.on ?_
    k_dflt (refine' use_L ?cD ?cB ?cF ?cX ?cN ?cT ?cK ?cd ?cu ?_; (case cB => k_asm); (case cF => k_asm); (case cX => k_asm); (case cN => k_asm); (case cT => k_asm); (case cD => exact (ih j (Nat.lt_succ_self j) hhalf.1 hj hj2) ); (case cK => first | exact rfl | assumption); (case cd => ktr_room); (case cu => ktr_units))
    intro r1 ws1 kr1 h_ tk_ F_ N_ lr1 hIr1
    skip
    (try dsimp only)
    k_sweep
    (try k_fold)
    k_steps
    have hsq : 1 ≤ fact (n.fdiv 2) * fact (n.fdiv 2) := Int.le_trans hg1 (mul_le_left hg1 hg1)
    have hsb : fact (n.fdiv 2) * fact (n.fdiv 2) ≤ fact n := by rw [← hf4 (two_of hge)]; exact mul_le_left hsq hf3
    have hsw : swv n ≤ fact n := by
      have := mul_le_right hsq hf3
      rwa [hf4 (two_of hge)] at this
    refine Stop.on ?_
    k_dflt (refine' use_L ?cD ?cB ?cF ?cX ?cN ?cT ?cK ?cd ?cu ?_; (case cB => k_asm); (case cF => k_asm); (case cX => k_asm); (case cN => k_asm); (case cT => k_asm); (case cD => exact (f_mul (.head _) (.head _) hIr1 hIr1 (nn1 hg1) (nn1 hg1) (dg_len hbs.1 400 _ (nn1 hg1) (Int.lt_trans hg2 (by decide))) (dg_len hbs.1 400 _ (nn1 hg1) (Int.lt_trans hg2 (by decide))) hp hp2) ); (case cK => first | exact rfl | assumption); (case cd => ktr_room); (case cu => ktr_units))
    intro r2 ws2 kr2 h_ tk_ F_ N_ lr2 hIr2
    skip
    (try dsimp only)
    k_sweep
    (try k_fold)
    k_steps
    refine Stop.on ?_
    k_dflt (refine' use_L ?cD ?cB ?cF ?cX ?cN ?cT ?cK ?cd ?cu ?_; (case cB => k_asm); (case cF => k_asm); (case cX => k_asm); (case cN => k_asm); (case cT => k_asm); (case cD => exact (f_swing hp hp2 hn (by omega)) ); (case cK => first | exact rfl | assumption); (case cd => ktr_room); (case cu => ktr_units))
    intro r3 ws3 kr3 h_ tk_ F_ N_ lr3 hIr3
    skip
    (try dsimp only)
    k_sweep
    (try k_fold)
    k_steps
    refine Stop.on ?_
    k_dflt (refine' use_L ?cD ?cB ?cF ?cX ?cN ?cT ?cK ?cd ?cu ?_; (case cB => k_asm); (case cF => k_asm); (case cX => k_asm); (case cN => k_asm); (case cT => k_asm); (case cD => exact (f_mul (.tail _ (.head _)) (.head _) hIr2 hIr3 (nn1 hsq) (nn1 hf3) (dg_len hbs.1 400 _ (nn1 hsq) (Int.lt_of_le_of_lt hsb (Int.lt_trans hf2 (by decide)))) (dg_len hbs.1 400 _ (nn1 hf3) (Int.lt_of_le_of_lt hsw (Int.lt_trans hf2 (by decide)))) hp hp2) ); (case cK => first | exact rfl | assumption); (case cd => ktr_room); (case cu => ktr_units))
    intro r4 ws4 kr4 h_ tk_ F_ N_ lr4 hIr4
    skip
    (try dsimp only)
    k_sweep
    (try k_fold)
    k_steps
    rw [hf4 (two_of hge)] at hIr4
    exact end_L hret (by k_asm) (news_sub (by k_asm) (by kst_in)) (fun q hq => lr4 q (.tail _ (.tail _ (.tail _ hq)))) hIr4
end
section
noncomputable def cmpK (xs ys : List Int) : Nat → Int
  | 0 => 0
  | k + 1 => if xs.getD k 0 = ys.getD k 0 then cmpK xs ys k else if xs.getD k 0 < ys.getD k 0 then -1 else 1
noncomputable def cmpM (xs ys : List Int) : Int := if xs.length = ys.length then cmpK xs ys xs.length else if xs.length < ys.length then -1 else 1
theorem f_compare {w : World} {mean : ExcName → Option Value} {mg mb : Str → Option Value} {news : Led} {la lb : Addr} {va vb : List Value} {na nb : Nat} {xs ys : List Int} (hla : (la, listOf va.toArray na) ∈ news) (hlb : (lb, listOf vb.toArray nb) ∈ news) (hIa : IntsAre va xs) (hIb : IntsAre vb ys) (hxs : xs.length ≤ 400) (hys : ys.length ≤ 400)
  (hdx : Dig 512 xs) (hdy : Dig 512 ys) :
   Does w mean mg mb 60 [.ref la, .ref lb] news 2 16 (IsInt (cmpM xs ys)) := by
  w_top off
  unfold Does
  k_fill
  intro dp un gd cn cs a ccd cl outer A₀ base h₀ L m s Q E B F X N T hk hdp hun hret
  refine wpAny_call ?_
  k_dflt (refine' code_def (binds := [(Str.ofString "a", Value.ref la), (Str.ofString "b", Value.ref lb)]) ?k1 ?k2 ?k3 ?k4 ?k5 ?kA ?kF ?kK ?k6 ?k7 ?k8 ?k9 ?kB ?_ ?c2 ?c3 ?c4 ?c5; (case kA => exact rfl); (case kF => exact rfl); (case kK => assumption); (case k1 => k_asm); (case k2 => k_asm); (case k3 => k_asm); (case k4 => k_asm); (case k5 => k_asm); (case k6 => k_is); (case k7 => k_is); (case k8 => ktr_room); (case k9 => exact BindsTo.of_eq rfl); (case c5 => decide); (case kB => exact locs rfl); (case c2 => exact rfl); (case c3 => exact rfl); (case c4 => exact rfl); k_whole; intro g' L' h' FG' F' N' B' X' T'; (try dsimp only); (try k_fold))
  replace F' := frB F'
  dsimp only [kstB, List.reverse, List.reverseAux] at F'
  refine fold_m F' ?_; clear F'; intro m1 F'
  refine fold_A ?_; intro A1
  refine gen_tk ?_; intro tk1
  have kMark := kstMark
  have hva := hIa.length
  have hvb := hIb.length
  k_steps
  · rename (xs.length : Int) ≠ ys.length => h1
    rename (xs.length : Int) < ys.length => h2
    have e : cmpM xs ys = -1 := by rw [cmpM, if_neg (by omega), if_pos (by omega)]
    rw [e] at hret
    exact end_I hret (by k_asm) (by k_asm)
  · rename (xs.length : Int) ≠ ys.length => h1
    rename ¬ (xs.length : Int) < ys.length => h2
    have e : cmpM xs ys = 1 := by rw [cmpM, if_neg (by omega), if_neg (by omega)]
    rw [e] at hret
    exact end_I hret (by k_asm) (by k_asm)
  · rename (xs.length : Int) = ys.length => h1
    have e : cmpM xs ys = cmpK xs ys xs.length := by rw [cmpM, if_pos (by omega)]
    rw [e] at hret
    refine Stop.on ?_
    rename Fr _ _ _ _ => F1
    rename News _ _ _ _ => N1
    rename IsRange _ _ _ _ _ _ _ _ => hR
    have hn : Builtin.Range.rangeSize ((xs.length : Int) - 1) (-1) (-1) = (xs.length : Int) := by rw [rangeSize_downNat]; omega
    refine range_inv (σ := Unit) (fun _ => news) (fun _ => []) [Str.ofString "at"] (fun i _ => cmpK xs ys (xs.length - i) = cmpK xs ys xs.length) () rfl hR (small_down (by omega) (by omega) (by omega) (by omega)) hn (fun _ => rfl) F1 N1 (fun _ h => nomatch h) rfl ?_ ?_
    · intro i _ t u h tk I o hi hk hoff F2 N2 K kr kb fin kc
      dsimp only [kstB] at hk hoff F2 N2 fin
      refine fold_m (L := L') F2 ?_; clear F2; intro m2 F2
      show wpAny _ _ _ _ _ { s with heap := h, toks := tk }
      (try k_fold)
      refine fold_N (L := L') N2 ?_; clear N2; intro N2
      have hidx : ((xs.length : Int) - 1 + (i : Int) * (-1)).toNat = xs.length - (i + 1) := by rw [show (xs.length : Int) - 1 + (i : Int) * (-1) = (xs.length : Int) - ((i + 1 : Nat) : Int) by omega]; exact Int.toNat_sub _ _
      have hbx := dig_at (by omega) hdx ((xs.length : Int) - 1 + (i : Int) * (-1)).toNat
      have hby := dig_at (by omega) hdy ((xs.length : Int) - 1 + (i : Int) * (-1)).toNat
      have hstep : cmpK xs ys (xs.length - i) = if xs.getD ((xs.length : Int) - 1 + (i : Int) * (-1)).toNat 0 = ys.getD ((xs.length : Int) - 1 + (i : Int) * (-1)).toNat 0 then cmpK xs ys (xs.length - (i + 1)) else if xs.getD ((xs.length : Int) - 1 + (i : Int) * (-1)).toNat 0 < ys.getD ((xs.length : Int) - 1 + (i : Int) * (-1)).toNat 0 then -1 else 1 := by
        rw [hidx, show xs.length - i = (xs.length - (i + 1)) + 1 by rw [Nat.sub_add_eq, Nat.sub_add_cancel (Nat.sub_pos_of_lt hi)], cmpK]
      k_steps
      · rename _ ≠ _ => hne
        rename _ < ys.getD _ 0 => hlt
        rw [if_neg hne, if_pos hlt] at hstep
        rw [← hk, hstep] at hret
        refine kr _ _ ?_
        k_steps
        exact end_I hret (by k_asm) (news_sub (by k_asm) (by kst_in))
      · rename _ ≠ _ => hne
        rename ¬ _ < ys.getD _ 0 => hlt
        rw [if_neg hne, if_neg hlt] at hstep
        rw [← hk, hstep] at hret
        refine kr _ _ ?_
        k_steps
        exact end_I hret (by k_asm) (news_sub (by k_asm) (by kst_in))
      · skip
        rename Fr _ _ _ _ => F3
        rename News _ _ _ _ => N3
        rename xs.getD _ 0 = _ => heq
        rw [if_pos heq] at hstep
        exact fin () _ _ _ _ F3 N3 (by kst_in) (by kst_in) (fun _ h => nomatch h) (by dsimp only [m2]; ksw_same) (hstep.symm.trans hk)
    · intro _ u h tk hk F2 N2
      dsimp only [kstB] at hk F2 N2
      refine fold_m (L := L') F2 ?_; clear F2; intro m2 F2
      refine fold_N (L := L') N2 ?_; clear N2; intro N2
      rw [Nat.sub_self] at hk
      rw [← hk] at hret
      k_steps
      exact end_I hret (by k_asm) (by k_asm)
noncomputable def IntP (s : Shared) (x : Int) (v : Value) (s' : Shared) : Prop := ∃ t tk, v = .int x t ∧ s' = { s with toks := tk }
theorem via_int {M : Model} {A : Around} {E : Value → Shared → Prop} {s : Shared} {T : Sem Value} {Q : Value → Shared → Prop} (x : Int) (h : wpAny M A T (IntP s x) E s) (k : ∀ t tk, Q (.int x t) { s with toks := tk }) : wpAny M A T Q E s :=
  wpAny_mono h (fun v s' ⟨t, tk, e1, e2⟩ => by subst e1 e2; exact k t tk) fun _ _ e => e
local macro_rules | `(tactic| walk_at "eval IfExp") => `(tactic| refine Stop.out ?_)
noncomputable def subS (b : Int) (xs ys : List Int) : Nat → List Int × Int
  | 0 => ([], 0)
  | i + 1 =>
    if xs.getD i 0 - (subS b xs ys i).2 - (if i < ys.length then ys.getD i 0 else 0) < 0 then
      ((subS b xs ys i).1 ++ [xs.getD i 0 - (subS b xs ys i).2 - (if i < ys.length then ys.getD i 0 else 0) + b], 1)
    else ((subS b xs ys i).1 ++ [xs.getD i 0 - (subS b xs ys i).2 - (if i < ys.length then ys.getD i 0 else 0)], 0)
theorem f_sub {w : World} {mean : ExcName → Option Value} {mg mb : Str → Option Value} {news : Led} {la lb : Addr} {va vb : List Value} {na nb : Nat} {xs ys : List Int} {p : Int} {tp : Tok} (hla : (la, listOf va.toArray na) ∈ news) (hlb : (lb, listOf vb.toArray nb) ∈ news) (hIa : IntsAre va xs) (hIb : IntsAre vb ys) (hxs : xs.length ≤ 400) (hys : ys.length ≤ 400)
  (hp : 3 ≤ p) (hp2 : p ≤ 9) (hdx : Dig 512 xs) (hdy : Dig 512 ys) (hge : 0 ≤ cmpM xs ys) :
   Does w mean mg mb 67 [.ref la, .ref lb, .int p tp] news 6 40 (IsL (nrm (subS (2 ^ p.toNat) xs ys xs.length).1)) := by
  w_top off
  unfold Does
  k_fill
  intro dp un gd cn cs a ccd cl outer A₀ base h₀ L m s Q E B F X N T hk hdp hun hret
  refine wpAny_call ?_
  k_dflt (refine' code_def (binds := [(Str.ofString "a", Value.ref la), (Str.ofString "b", Value.ref lb), (Str.ofString "w", Value.int p tp)]) ?k1 ?k2 ?k3 ?k4 ?k5 ?kA ?kF ?kK ?k6 ?k7 ?k8 ?k9 ?kB ?_ ?c2 ?c3 ?c4 ?c5; (case kA => exact rfl); (case kF => exact rfl); (case kK => assumption); (case k1 => k_asm); (case k2 => k_asm); (case k3 => k_asm); (case k4 => k_asm); (case k5 => k_asm); (case k6 => k_is); (case k7 => k_is); (case k8 => ktr_room); (case k9 => exact BindsTo.of_eq rfl); (case c5 => decide); (case kB => exact locs rfl); (case c2 => exact rfl); (case c3 => exact rfl); (case c4 => exact rfl); k_whole; intro g' L' h' FG' F' N' B' X' T'; (try dsimp only); (try k_fold))
  replace F' := frB F'
  dsimp only [kstB, List.reverse, List.reverseAux] at F'
  refine fold_m F' ?_; clear F'; intro m1 F'
  refine fold_A ?_; intro A1
  refine gen_tk ?_; intro tk1
  have kMark := kstMark
  have hbs := base_ge hp hp2
  have hva := hIa.length
  have hvb := hIb.length
  k_steps
  refine Stop.on ?_
  k_dflt (refine' use_I ?cD ?cB ?cF ?cX ?cN ?cT ?cK ?cd ?cu ?_; (case cB => k_asm); (case cF => k_asm); (case cX => k_asm); (case cN => k_asm); (case cT => k_asm); (case cD => exact (f_compare hla hlb hIa hIb hxs hys hdx hdy) ); (case cK => first | exact rfl | assumption); (case cd => ktr_room); (case cu => ktr_units))
  intro t1 h_ tk_ F_ N_
  skip
  (try dsimp only)
  k_sweep
  (try k_fold)
  k_steps
  refine Stop.on ?_
  rename Fr _ _ _ _ => F1
  rename News _ _ _ _ => N1
  rename IsRange _ _ _ _ _ _ _ _ => hR
  rename_i l _ lt _ _ _ _ _ _ _ _ _ _ _ _ _ _ _
  rw [Int.one_mul] at F1
  have hn : Builtin.Range.rangeSize 0 (xs.length : Int) 1 = (xs.length : Int) := by rw [rangeSize_nat]; omega
  refine range_inv (σ := List Value × List Int × Nat × Int × Tok) (fun c => (l, listOf c.1.toArray c.2.2.1) :: news) (fun c => [(Str.ofString "borrow", .int c.2.2.2.1 c.2.2.2.2)]) [Str.ofString "at", Str.ofString "limb"] (fun i c => IntsAre c.1 c.2.1 ∧ (c.2.1, c.2.2.2.1) = subS (2 ^ p.toNat) xs ys i ∧ c.2.1.length ≤ i ∧ 0 ≤ c.2.2.2.1 ∧ c.2.2.2.1 ≤ 1) ([], [], 0, 0, _) rfl hR (small_one (by omega) (by omega) (by omega) (by omega)) hn (fun _ => rfl) F1 (news_sub N1 (by kst_in)) (by kst_all) ⟨.nil, rfl, Nat.le_refl _, Int.le_refl _, by show (0:Int) ≤ 1; decide⟩ ?_ ?_
  · refine fun i => fa5 fun cv zs k bo tb => ?_
    intro t u h tk I o hi hP hoff F2 N2 K kr kb fin kc
    dsimp only [kstB] at hP hoff F2 N2 fin
    have hI := hP.1
    have he := hP.2.1
    have hl := hP.2.2.1
    have hb0 := hP.2.2.2.1
    have hb1 := hP.2.2.2.2
    clear hP
    have hcl := hI.length
    have hD1 : I ≠ l := hoff _ (.head _) _ (.head _)
    have hidx : (0 + (i : Int) * 1).toNat = i := by omega
    have hbx := dig_at (by omega) hdx (0 + (i : Int) * 1).toNat
    have hby := dig_at (by omega) hdy (0 + (i : Int) * 1).toNat
    have he1 : zs = (subS (2 ^ p.toNat) xs ys i).1 := congrArg Prod.fst he
    have he2 : bo = (subS (2 ^ p.toNat) xs ys i).2 := congrArg Prod.snd he
    have hstep : subS (2 ^ p.toNat) xs ys (i + 1) = if xs.getD (0 + (i : Int) * 1).toNat 0 - bo - (if i < ys.length then ys.getD (0 + (i : Int) * 1).toNat 0 else 0) < 0 then (zs ++ [xs.getD (0 + (i : Int) * 1).toNat 0 - bo - (if i < ys.length then ys.getD (0 + (i : Int) * 1).toNat 0 else 0) + 2 ^ p.toNat], 1) else (zs ++ [xs.getD (0 + (i : Int) * 1).toNat 0 - bo - (if i < ys.length then ys.getD (0 + (i : Int) * 1).toNat 0 else 0)], 0) := by
      rw [hidx, subS, ← he1, ← he2]
    refine fold_m (L := L') F2 ?_; clear F2; intro m2 F2
    show wpAny _ _ _ _ _ { s with heap := h, toks := tk }
    (try k_fold)
    refine fold_N (L := L') N2 ?_; clear N2; intro N2
    k_steps
    refine Stop.on ?_
    refine via_int (if i < ys.length then ys.getD (0 + (i : Int) * 1).toNat 0 else 0) ?_ ?_
    · refine IfExp_ ?_
      k_steps
      · have hlt : i < ys.length := by omega
        exact ⟨_, _, by rw [if_pos hlt], rfl⟩
      · have hlt : ¬ i < ys.length := by omega
        exact ⟨_, _, by rw [if_neg hlt], rfl⟩
    intro tj tkj
    k_steps
    refine Stop.on ?_
    refine IfExp_ ?_
    k_steps
    all_goals (refine Stop.on ?_; refine IfExp_ ?_; k_steps)
    · rename Fr _ _ _ _ => F3
      rename News _ _ _ _ => N3
      rename xs.getD _ 0 - bo - _ < 0 => hneg
      (try simp only [List.push_toArray] at N3)
      rw [if_pos hneg] at hstep
      exact fin ⟨_, zs ++ [_], _, 1, _⟩ _ _ _ _ F3 N3 (by kst_in) (by kst_in) (by kst_all) (by dsimp only [m2]; ksw_same) ⟨hI.append (.cons _ _ .nil), hstep.symm, by show (zs ++ [_]).length ≤ _; rw [List.length_append, List.length_singleton]; omega, by show (0:Int) ≤ 1; decide, by show (1:Int) ≤ 1; decide⟩
    · rename Fr _ _ _ _ => F3
      rename News _ _ _ _ => N3
      rename ¬ xs.getD _ 0 - bo - _ < 0 => hneg
      (try simp only [List.push_toArray] at N3)
      rw [if_neg hneg] at hstep
      exact fin ⟨_, zs ++ [_], _, 0, _⟩ _ _ _ _ F3 N3 (by kst_in) (by kst_in) (by kst_all) (by dsimp only [m2]; ksw_same) ⟨hI.append (.cons _ _ .nil), hstep.symm, by show (zs ++ [_]).length ≤ _; rw [List.length_append, List.length_singleton]; omega, by show (0:Int) ≤ 0; decide, by show (0:Int) ≤ 1; decide⟩
  · refine fa5 fun cv zs k bo tb => ?_
    intro u h tk hP F2 N2
    dsimp only [kstB] at hP F2 N2
    have hI := hP.1
    have he := hP.2.1
    have hl := hP.2.2.1
    have hb0 := hP.2.2.2.1
    have hb1 := hP.2.2.2.2
    clear hP
    refine fold_m (L := L') F2 ?_; clear F2; intro m2 F2
    refine fold_N (L := L') N2 ?_; clear N2; intro N2
    have he1 : zs = (subS (2 ^ p.toNat) xs ys xs.length).1 := congrArg Prod.fst he
    k_steps
    refine Stop.on ?_
    k_dflt (refine' use_L ?cD ?cB ?cF ?cX ?cN ?cT ?cK ?cd ?cu ?_; (case cB => k_asm); (case cF => k_asm); (case cX => k_asm); (case cN => k_asm); (case cT => k_asm); (case cD => exact (f_normal (.head _) hI (by omega)) ); (case cK => first | exact rfl | assumption); (case cd => ktr_room); (case cu => ktr_units))
    intro r3 ws3 kr3 h_ tk_ F_ N_ lr3 hIr3
    skip
    (try dsimp only)
    k_sweep
    (try k_fold)
    k_steps
    rw [he1] at hIr3
    exact end_L hret (by k_asm) (news_sub (by k_asm) (by kst_in)) (fun q hq => lr3 q (.tail _ hq)) hIr3
end
section
theorem flat_len (k : Nat) : (List.replicate k [(0:Int)]).flatten.length = k := by simp
noncomputable def shS (b few : Int) (z xs : List Int) : Nat → List Int × Int
  | 0 => (z, 0)
  | i + 1 => ((shS b few z xs i).1 ++ [(Builtin.bitOr (shS b few z xs i).2 (xs.getD i 0 * 2 ^ few.toNat)).fmod b], (Builtin.bitOr (shS b few z xs i).2 (xs.getD i 0 * 2 ^ few.toNat)).fdiv b)
noncomputable def shl (b few : Int) (z xs : List Int) : List Int := if xs = [] then [] else if 0 < (shS b few z xs xs.length).2 then (shS b few z xs xs.length).1 ++ [(shS b few z xs xs.length).2] else (shS b few z xs xs.length).1
theorem bor_bound {x y : Int} (hx : 0 ≤ x) (hy : 0 ≤ y) : 0 ≤ Builtin.bitOr x y ∧ Builtin.bitOr x y ≤ x + y := by
  rw [bitOr_and, bitAnd_pp hx hy]
  have : x.toNat &&& y.toNat ≤ x.toNat := Nat.and_le_left
  omega
theorem pow_few {f : Int} (h0 : 0 ≤ f) (h : f ≤ 9) : (1 : Int) ≤ 2 ^ f.toNat ∧ (2 : Int) ^ f.toNat ≤ 512 := by
  have : f = 0 ∨ f = 1 ∨ f = 2 ∨ f = 3 ∨ f = 4 ∨ f = 5 ∨ f = 6 ∨ f = 7 ∨ f = 8 ∨ f = 9 := by omega
  rcases this with rfl | rfl | rfl | rfl | rfl | rfl | rfl | rfl | rfl | rfl <;> decide
structure ShN (n p : Int) : Prop where
  f1 : 0 ≤ n.fmod p
  f2 : n.fmod p ≤ 9
  f3 : n.fmod p ≤ 1000000
  g1 : -2 ^ 63 ≤ n.fdiv p
  g2 : n.fdiv p < 2 ^ 63
  g3 : n.fdiv p ≤ ((1048576 : Nat) : Int)
  g4 : (n.fdiv p).toNat ≤ 30 + 0
theorem shn {n p : Int} (hn : 0 ≤ n) (hn2 : n ≤ 22) (hp : 3 ≤ p) (hp2 : p ≤ 9) : ShN n p := by
  have hp0 : 0 ≤ p := by omega
  have h1 := Int.emod_nonneg n (show p ≠ 0 by omega)
  have h2 := Int.emod_lt_of_pos n (show 0 < p by omega)
  have h3 := Int.ediv_nonneg hn hp0
  have h4 := Int.ediv_le_self p hn
  rw [← Int.fmod_eq_emod_of_nonneg _ hp0] at h1 h2
  rw [← Int.fdiv_eq_ediv_of_nonneg _ hp0] at h3 h4
  constructor <;> omega
theorem f_shift_left {w : World} {mean : ExcName → Option Value} {mg mb : Str → Option Value} {news : Led} {la : Addr} {va : List Value} {na : Nat} {xs : List Int} {n p : Int} {tn tp : Tok} (hla : (la, listOf va.toArray na) ∈ news) (hIa : IntsAre va xs) (hxs : xs.length ≤ 400) (hn : 0 ≤ n) (hn2 : n ≤ 22)
  (hp : 3 ≤ p) (hp2 : p ≤ 9) (hdx : Dig (2 ^ p.toNat) xs) :
   Does w mean mg mb 74 [.ref la, .int n tn, .int p tp] news 2 16 (IsL (shl (2 ^ p.toNat) (n.fmod p) (List.replicate (n.fdiv p).toNat [(0:Int)]).flatten xs)) := by
  w_top off
  unfold Does
  k_fill
  intro dp un gd cn cs a ccd cl outer A₀ base h₀ L m s Q E B F X N T hk hdp hun hret
  refine wpAny_call ?_
  k_dflt (refine' code_def (binds := [(Str.ofString "a", Value.ref la), (Str.ofString "n", Value.int n tn), (Str.ofString "w", Value.int p tp)]) ?k1 ?k2 ?k3 ?k4 ?k5 ?kA ?kF ?kK ?k6 ?k7 ?k8 ?k9 ?kB ?_ ?c2 ?c3 ?c4 ?c5; (case kA => exact rfl); (case kF => exact rfl); (case kK => assumption); (case k1 => k_asm); (case k2 => k_asm); (case k3 => k_asm); (case k4 => k_asm); (case k5 => k_asm); (case k6 => k_is); (case k7 => k_is); (case k8 => ktr_room); (case k9 => exact BindsTo.of_eq rfl); (case c5 => decide); (case kB => exact locs rfl); (case c2 => exact rfl); (case c3 => exact rfl); (case c4 => exact rfl); k_whole; intro g' L' h' FG' F' N' B' X' T'; (try dsimp only); (try k_fold))
  replace F' := frB F'
  dsimp only [kstB, List.reverse, List.reverseAux] at F'
  refine fold_m F' ?_; clear F'; intro m1 F'
  refine fold_A ?_; intro A1
  refine gen_tk ?_; intro tk1
  have hbs := base_ge hp hp2
  have kMark := kstMark
  have hva := hIa.length
  have hs := shn hn hn2 hp hp2
  have hf1 := hs.f1
  have hf2 := hs.f2
  have hf3 := hs.f3
  have hg1 := hs.g1
  have hg2 := hs.g2
  have hg3 := hs.g3
  have hg4 := hs.g4
  clear hs
  have pz := pnum hp hp2
  have pz1 := pz.n1
  have pz2 := pz.n2
  have pz3 := pz.n3
  have pz4 := pz.n4
  have pz5 := pz.n5
  clear pz
  k_steps
  · rename (xs.length : Int) = 0 => hz
    have hx : xs = [] := List.eq_nil_of_length_eq_zero (by omega)
    subst hx
    rename News _ _ _ (_ :: _) => N9
    exact end_L hret (by k_asm) (by k_asm) (by assumption) .nil
  · refine Stop.on ?_
    rename Fr _ _ _ _ => F1
    rename News _ _ _ _ => N1
    rename_i D _ i1 n1 s1 e1 e2 e3 lt1 _ _ lt2 _ _ _ _
    rw [Int.one_mul] at F1
    refine list_inv (σ := List Value × List Int × Nat × Int × Tok) (fun c => (D, listOf c.1.toArray c.2.2.1) :: news) (fun c => [(Str.ofString "carry", .int c.2.2.2.1 c.2.2.2.2)]) [Str.ofString "one"] (fun i c => IntsAre c.1 c.2.1 ∧ (c.2.1, c.2.2.2.1) = shS (2 ^ p.toNat) (n.fmod p) (List.replicate (n.fdiv p).toNat [(0:Int)]).flatten xs i ∧ c.2.1.length ≤ 30 + i ∧ 0 ≤ c.2.2.2.1 ∧ c.2.2.2.1 < 2 ^ 18) (_, _, 0, 0, _) rfl (fun c => .tail _ hla) hIa (fun _ => rfl) F1 (news_sub N1 (by kst_in)) (by kst_all) ⟨i1, rfl, by rw [flat_len]; exact hg4, Int.le_refl _, by show (0:Int) < 2 ^ 18; decide⟩ ?_ ?_
    · refine fun i => fa5 fun cv ys k c tc => ?_
      intro x t u h tk I o hx hP hoff F2 N2 K kr kb fin kc
      dsimp only [kstB] at hP hoff F2 N2 fin
      have hI := hP.1
      have he := hP.2.1
      have hl := hP.2.2.1
      have hc0 := hP.2.2.2.1
      have hc1 := hP.2.2.2.2
      clear hP
      have hcl := hI.length
      have hxi := List.getElem?_eq_some_iff.mp hx
      have hx1 : i < xs.length := hxi.1
      have hx2 : 0 ≤ x ∧ x < 2 ^ p.toNat := hdx x (hxi.2 ▸ List.getElem_mem hx1)
      have dx := dnum hbs hx2
      have dx1 := dx.n1
      have dx2 := dx.n2
      have dx3 := dx.n3
      clear dx
      have hD1 : I ≠ D := hoff _ (.head _) _ (.head _)
      refine fold_m (L := L') F2 ?_; clear F2; intro m2 F2
      show wpAny _ _ _ _ _ { s with heap := h, toks := tk }
      (try k_fold)
      refine fold_N (L := L') N2 ?_; clear N2; intro N2
      have hpw : (1 : Int) ≤ 2 ^ (n.fmod p).toNat ∧ (2 : Int) ^ (n.fmod p).toNat ≤ 512 := pow_few hf1 hf2
      have hxp0 : 0 ≤ x * 2 ^ (n.fmod p).toNat := Int.mul_nonneg hx2.1 (by omega)
      have hxp1 : x * 2 ^ (n.fmod p).toNat ≤ 512 * 512 := Int.mul_le_mul (by omega) hpw.2 (by omega) (by omega)
      have hbo := bor_bound hc0 hxp0
      k_steps
      rename Fr _ _ _ _ => F3
      rename News _ _ _ _ => N3
      simp only [List.push_toArray, kbt_maskF] at N3
      have hxd : xs.getD i 0 = x := by rw [List.getD_eq_getElem?_getD, hx]; rfl
      have he1 : ys = (shS (2 ^ p.toNat) (n.fmod p) (List.replicate (n.fdiv p).toNat [(0:Int)]).flatten xs i).1 := congrArg Prod.fst he
      have he2 : c = (shS (2 ^ p.toNat) (n.fmod p) (List.replicate (n.fdiv p).toNat [(0:Int)]).flatten xs i).2 := congrArg Prod.snd he
      exact fin ⟨_, ys ++ [_], _, _, _⟩ _ _ _ _ F3 N3 (by kst_in) (by kst_in) (by kst_all) (by dsimp only [m2]; ksw_same) ⟨hI.append (.cons _ _ .nil), by
        show (ys ++ [(Builtin.bitOr c (x * 2 ^ (n.fmod p).toNat)).fmod (2 ^ p.toNat)], (Builtin.bitOr c (x * 2 ^ (n.fmod p).toNat)).fdiv (2 ^ p.toNat)) = shS _ _ _ _ (i + 1)
        rw [shS, hxd, ← he1, ← he2], by show (ys ++ [_]).length ≤ _; rw [List.length_append, List.length_singleton]; omega, fdiv_nonneg hbs.1 hbo.1, by
        show (Builtin.bitOr c (x * 2 ^ (n.fmod p).toNat)).fdiv (2 ^ p.toNat) < 2 ^ 18
        have e8 := fdm hbs.1 (Builtin.bitOr c (x * 2 ^ (n.fmod p).toNat))
        have e9 := fmod_rest hbs.1 (Builtin.bitOr c (x * 2 ^ (n.fmod p).toNat))
        have e10 := fdiv_nonneg hbs.1 hbo.1
        have e11 : 2 * (Builtin.bitOr c (x * 2 ^ (n.fmod p).toNat)).fdiv (2 ^ p.toNat) ≤ 2 ^ p.toNat * (Builtin.bitOr c (x * 2 ^ (n.fmod p).toNat)).fdiv (2 ^ p.toNat) := Int.mul_le_mul_of_nonneg_right hbs.1 e10
        omega⟩
    · refine fa5 fun cv ys k c tc => ?_
      intro u h tk hP F2 N2
      dsimp only [kstB] at hP F2 N2
      have hI := hP.1
      have he := hP.2.1
      have hl := hP.2.2.1
      have hc0 := hP.2.2.2.1
      have hc1 := hP.2.2.2.2
      clear hP
      have hcl := hI.length
      refine fold_m (L := L') F2 ?_; clear F2; intro m2 F2
      refine fold_N (L := L') N2 ?_; clear N2; intro N2
      rename (xs.length : Int) ≠ 0 => hz
      have hx0 : xs ≠ [] := fun e => hz (by rw [e]; rfl)
      have he1 : ys = (shS (2 ^ p.toNat) (n.fmod p) (List.replicate (n.fdiv p).toNat [(0:Int)]).flatten xs xs.length).1 := congrArg Prod.fst he
      have he2 : c = (shS (2 ^ p.toNat) (n.fmod p) (List.replicate (n.fdiv p).toNat [(0:Int)]).flatten xs xs.length).2 := congrArg Prod.snd he
      k_steps
      · rename 0 < c => hc
        simp only [List.push_toArray] at *
        exact end_L hret (by k_asm) (by k_asm) (kst_ltOf lt1.2.2) (by rw [shl, if_neg hx0, ← he2, if_pos hc, ← he1]; exact hI.append (.cons _ _ .nil))
      · rename ¬ 0 < c => hc
        exact end_L hret (by k_asm) (by k_asm) (kst_ltOf lt1.2.2) (by rw [shl, if_neg hx0, ← he2, if_neg hc, ← he1]; exact hI)
end
section
local macro_rules | `(tactic| walk_at "call type:list") => `(tactic| refine Stop.out ?_)
noncomputable def rgz (a b c : Int) : List Int := rg a c (Builtin.Range.rangeSize a b c).toNat
noncomputable def dfac (n : Int) : Int := prd (rgz n 0 (-2))
noncomputable def primo (n : Int) : Int := prd (pr n)
noncomputable def ws : List Int := [3, 4, 5, 6, 7, 8, 9]
theorem in_ws {p : Int} (hp : 3 ≤ p) (hp2 : p ≤ 9) : p ∈ ws := by
  have : p = 3 ∨ p = 4 ∨ p = 5 ∨ p = 6 ∨ p = 7 ∨ p = 8 ∨ p = 9 := by omega
  rcases this with rfl | rfl | rfl | rfl | rfl | rfl | rfl <;> decide
theorem dfac_even : ∀ h : Nat, h < 12 → ∀ w ∈ ws, shl (2 ^ w.toNat) (Int.fmod h w) (List.replicate (Int.fdiv h w).toNat [(0:Int)]).flatten (dg (2 ^ w.toNat) (fact h)) = dg (2 ^ w.toNat) (dfac (2 * (h : Int))) := by decide +kernel
theorem dfac_all : ∀ n : Nat, n < 23 → 1 ≤ dfac n ∧ dfac n < 2 ^ 80 ∧ (rgz 1 (n + 1) 2).length ≤ 20 ∧ (∀ c ∈ rgz 1 (n + 1) 2, 1 ≤ c) ∧ (n % 2 = 1 → prd (rgz 1 (n + 1) 2) = dfac n) ∧ primo n < 2 ^ 80 := by decide +kernel
theorem dfac_ok {n : Int} (h0 : 0 ≤ n) (h1 : n ≤ 22) : 1 ≤ dfac n ∧ dfac n < 2 ^ 80 ∧ (rgz 1 (n + 1) 2).length ≤ 20 ∧ (∀ c ∈ rgz 1 (n + 1) 2, 1 ≤ c) ∧ (n.fmod 2 ≠ 0 → prd (rgz 1 (n + 1) 2) = dfac n) ∧ primo n < 2 ^ 80 := by
  have h := dfac_all n.toNat (tn_le h1)
  rw [Int.toNat_of_nonneg h0] at h
  refine ⟨h.1, h.2.1, h.2.2.1, h.2.2.2.1, fun hn => h.2.2.2.2.1 ?_, h.2.2.2.2.2⟩
  rw [Int.fmod_eq_emod_of_nonneg _ (by omega)] at hn
  omega
theorem dfac_half {n p : Int} (h0 : 0 ≤ n) (h1 : n ≤ 22) (hp : 3 ≤ p) (hp2 : p ≤ 9) (he : n.fmod 2 = 0) : shl (2 ^ p.toNat) ((n.fdiv 2).fmod p) (List.replicate ((n.fdiv 2).fdiv p).toNat [(0:Int)]).flatten (dg (2 ^ p.toNat) (fact (n.fdiv 2))) = dg (2 ^ p.toNat) (dfac n) := by
  have hw := in_ws hp hp2
  rw [Int.fmod_eq_emod_of_nonneg _ (by omega)] at he
  have e2 := fdiv2_nat h0
  have h := dfac_even (n.toNat / 2) (by omega) p hw
  rw [← e2] at h
  rw [h]
  congr 2
  rw [Int.fdiv_eq_ediv_of_nonneg _ (by omega)]
  omega
theorem f_primorial {w : World} {mean : ExcName → Option Value} {mg mb : Str → Option Value} {p : Int} {tp : Tok} (hp : 3 ≤ p) (hp2 : p ≤ 9) {news : Led} {n : Int} {tn : Tok} (hn : 0 ≤ n) (hn2 : n ≤ 22) :
   Does w mean mg mb 142 [.int n tn, .int p tp, .ref 170] news 70 320 (IsL (dg (2 ^ p.toNat) (primo n))) := by
  w_top off
  unfold Does
  k_fill
  intro dp un gd cn cs a ccd cl outer A₀ base h₀ L m s Q E B F X N T hk hdp hun hret
  refine wpAny_call ?_
  k_dflt (refine' code_def (binds := [(Str.ofString "n", Value.int n tn), (Str.ofString "w", Value.int p tp), (Str.ofString "mul", Value.ref 170)]) ?k1 ?k2 ?k3 ?k4 ?k5 ?kA ?kF ?kK ?k6 ?k7 ?k8 ?k9 ?kB ?_ ?c2 ?c3 ?c4 ?c5; (case kA => exact rfl); (case kF => exact rfl); (case kK => assumption); (case k1 => k_asm); (case k2 => k_asm); (case k3 => k_asm); (case k4 => k_asm); (case k5 => k_asm); (case k6 => k_is); (case k7 => k_is); (case k8 => ktr_room); (case k9 => exact BindsTo.of_eq rfl); (case c5 => decide); (case kB => exact locs rfl); (case c2 => exact rfl); (case c3 => exact rfl); (case c4 => exact rfl); k_whole; intro g' L' h' FG' F' N' B' X' T'; (try dsimp only); (try k_fold))
  replace F' := frB F'
  dsimp only [kstB, List.reverse, List.reverseAux] at F'
  refine fold_m F' ?_; clear F'; intro m1 F'
  refine fold_A ?_; intro A1
  refine gen_tk ?_; intro tk1
  have kMark := kstMark
  obtain ⟨hf1, hf2, hf3, hf4, hf5, hf6⟩ := dfac_ok hn hn2
  k_steps
  refine Stop.on ?_
  k_dflt (refine' use_N ?cD ?cB ?cF ?cX ?cN ?cT ?cK ?cd ?cu ?_; (case cB => k_asm); (case cF => k_asm); (case cX => k_asm); (case cN => k_asm); (case cT => k_asm); (case cD => exact (f_need_count hn) ); (case cK => first | exact rfl | assumption); (case cd => ktr_room); (case cu => ktr_units))
  intro h_ tk_ F_ N_
  skip
  (try dsimp only)
  k_sweep
  (try k_fold)
  k_steps
  refine Stop.on ?_
  k_dflt (refine' use_L ?cD ?cB ?cF ?cX ?cN ?cT ?cK ?cd ?cu ?_; (case cB => k_asm); (case cF => k_asm); (case cX => k_asm); (case cN => k_asm); (case cT => k_asm); (case cD => exact (f_sieve hn hn2) ); (case cK => first | exact rfl | assumption); (case cd => ktr_room); (case cu => ktr_units))
  intro r1 ws1 kr1 h_ tk_ F_ N_ lr1 hIr1
  skip
  (try dsimp only)
  k_sweep
  (try k_fold)
  k_steps
  refine Stop.on ?_
  k_dflt (refine' use_L ?cD ?cB ?cF ?cX ?cN ?cT ?cK ?cd ?cu ?_; (case cB => k_asm); (case cF => k_asm); (case cX => k_asm); (case cN => k_asm); (case cT => k_asm); (case cD => exact (f_product_of_counts hp hp2 22 (.head _) hIr1 (fun c hc => Int.le_trans (by decide) (pr_rng hn hn2 hc).1) (Int.lt_trans hf6 (by decide)) (pr_len hn hn2) (by omega)) ); (case cK => first | exact rfl | assumption); (case cd => ktr_room); (case cu => ktr_units))
  intro r2 ws2 kr2 h_ tk_ F_ N_ lr2 hIr2
  skip
  (try dsimp only)
  k_sweep
  (try k_fold)
  k_steps
  exact end_L hret (by k_asm) (news_sub (by k_asm) (by kst_in)) (fun q hq => lr2 q (.tail _ hq)) hIr2
theorem f_double_factorial {w : World} {mean : ExcName → Option Value} {mg mb : Str → Option Value} {p : Int} {tp : Tok} (hp : 3 ≤ p) (hp2 : p ≤ 9) {news : Led} {n : Int} {tn : Tok} (hn : 0 ≤ n) (hn2 : n ≤ 22) :
   Does w mean mg mb 135 [.int n tn, .int p tp, .ref 170] news 70 320 (IsL (dg (2 ^ p.toNat) (dfac n))) := by
  w_top off
  unfold Does
  k_fill
  intro dp un gd cn cs a ccd cl outer A₀ base h₀ L m s Q E B F X N T hk hdp hun hret
  refine wpAny_call ?_
  k_dflt (refine' code_def (binds := [(Str.ofString "n", Value.int n tn), (Str.ofString "w", Value.int p tp), (Str.ofString "mul", Value.ref 170)]) ?k1 ?k2 ?k3 ?k4 ?k5 ?kA ?kF ?kK ?k6 ?k7 ?k8 ?k9 ?kB ?_ ?c2 ?c3 ?c4 ?c5; (case kA => exact rfl); (case kF => exact rfl); (case kK => assumption); (case k1 => k_asm); (case k2 => k_asm); (case k3 => k_asm); (case k4 => k_asm); (case k5 => k_asm); (case k6 => k_is); (case k7 => k_is); (case k8 => ktr_room); (case k9 => exact BindsTo.of_eq rfl); (case c5 => decide); (case kB => exact locs rfl); (case c2 => exact rfl); (case c3 => exact rfl); (case c4 => exact rfl); k_whole; intro g' L' h' FG' F' N' B' X' T'; (try dsimp only); (try k_fold))
  replace F' := frB F'
  dsimp only [kstB, List.reverse, List.reverseAux] at F'
  refine fold_m F' ?_; clear F'; intro m1 F'
  refine fold_A ?_; intro A1
  refine gen_tk ?_; intro tk1
  have kMark := kstMark
  have hbs := base_ge hp hp2
  have hhalf := half_of (show 0 ≤ n from hn)
  obtain ⟨hf1, hf2, hf3, hf4, hf5, hf6⟩ := dfac_ok hn hn2
  k_steps
  refine Stop.on ?_
  k_dflt (refine' use_N ?cD ?cB ?cF ?cX ?cN ?cT ?cK ?cd ?cu ?_; (case cB => k_asm); (case cF => k_asm); (case cX => k_asm); (case cN => k_asm); (case cT => k_asm); (case cD => exact (f_need_count hn) ); (case cK => first | exact rfl | assumption); (case cd => ktr_room); (case cu => ktr_units))
  intro h_ tk_ F_ N_
  skip
  (try dsimp only)
  k_sweep
  (try k_fold)
  k_steps
  · rename n.fmod 2 = 0 => he
    have hq := Int.le_trans (half_self hhalf.1 hhalf.2.1) hn2
    obtain ⟨hg1, hg2, _, _⟩ := fact_ok (n := n.fdiv 2) hhalf.1 hq
    refine Stop.on ?_
    k_dflt (refine' use_L ?cD ?cB ?cF ?cX ?cN ?cT ?cK ?cd ?cu ?_; (case cB => k_asm); (case cF => k_asm); (case cX => k_asm); (case cN => k_asm); (case cT => k_asm); (case cD => exact (f_factorial hp hp2 22 hhalf.1 hq (by decide)) ); (case cK => first | exact rfl | assumption); (case cd => ktr_room); (case cu => ktr_units))
    intro r1 ws1 kr1 h_ tk_ F_ N_ lr1 hIr1
    skip
    (try dsimp only)
    k_sweep
    (try k_fold)
    k_steps
    refine Stop.on ?_
    k_dflt (refine' use_L ?cD ?cB ?cF ?cX ?cN ?cT ?cK ?cd ?cu ?_; (case cB => k_asm); (case cF => k_asm); (case cX => k_asm); (case cN => k_asm); (case cT => k_asm); (case cD => exact (f_shift_left (.head _) hIr1 (dg_len hbs.1 400 _ (nn1 hg1) (Int.lt_trans hg2 (by decide))) hhalf.1 hq hp hp2 (dig_dg hbs.1 _ (nn1 hg1))) ); (case cK => first | exact rfl | assumption); (case cd => ktr_room); (case cu => ktr_units))
    intro r2 ws2 kr2 h_ tk_ F_ N_ lr2 hIr2
    skip
    (try dsimp only)
    k_sweep
    (try k_fold)
    k_steps
    rw [dfac_half hn hn2 hp hp2 he] at hIr2
    exact end_L hret (by k_asm) (news_sub (by k_asm) (by kst_in)) (fun q hq => lr2 q (.tail _ hq)) hIr2
  · rename n.fmod 2 ≠ 0 => hodd
    refine Stop.on ?_
    rename Fr _ _ _ _ => F1
    rename News _ _ _ _ => N1
    rename IsRange _ _ _ _ _ _ _ _ => hR
    have hrl : (Builtin.Range.rangeSize 1 (n + 1) 2).toNat ≤ 20 := by rwa [rgz, rg_len] at hf3
    refine list_range rfl F1 N1 hR (small_sv (by decide) (by decide) (Int.le_add_one hn) (Int.lt_of_le_of_lt (Int.add_le_add_right hn2 1) (by decide)) (by decide) (by decide)) (rangeSize_toNat _ _ _) (by omega) fun D us k h9 tk9 F2 N2 lt9 hI9 => ?_
    clear F1 N1
    k_steps
    refine Stop.on ?_
    k_dflt (refine' use_L ?cD ?cB ?cF ?cX ?cN ?cT ?cK ?cd ?cu ?_; (case cB => k_asm); (case cF => k_asm); (case cX => k_asm); (case cN => k_asm); (case cT => k_asm); (case cD => exact (f_product_of_counts hp hp2 22 (.head _) hI9 hf4 (Int.lt_of_le_of_lt (Int.le_of_eq (hf5 hodd)) (Int.lt_trans hf2 (by decide))) (Nat.le_trans hf3 (by omega)) (by omega)) ); (case cK => first | exact rfl | assumption); (case cd => ktr_room); (case cu => ktr_units))
    intro r2 ws2 kr2 h_ tk_ F_ N_ lr2 hIr2
    skip
    (try dsimp only)
    k_sweep
    (try k_fold)
    k_steps
    have hz : prd (rg 1 2 (Builtin.Range.rangeSize 1 (n + 1) 2).toNat) = dfac n := hf5 hodd
    rw [hz] at hIr2
    exact end_L hret (by k_asm) (news_sub (by k_asm) (by kst_in)) (fun q hq => lr2 q (.tail _ hq)) hIr2
end
section
local macro_rules | `(tactic| k_all) => `(tactic| with_reducible assumption)
noncomputable def bp (n k x : Int) : Int × Int := (x, fx n x - fx k x - fx (n - k) x)
noncomputable def bps (n k : Int) : List (Int × Int) := ((pr n).map (bp n k)).filter fun q => decide (0 < q.2)
noncomputable def bin (n k : Int) : Int := if k ≤ n then prd (pws (bps n k)) else 0
theorem bin_all : ∀ n : Nat, n < 23 → ∀ k : Nat, k < n + 1 → (bps n k).length ≤ 22 ∧ (∀ q ∈ bps n k, 1 ≤ q.1 ∧ 1 ≤ q.2) ∧ bin n k < 2 ^ 60 := by decide +kernel
theorem bin_ok {n k : Int} (h0 : 0 ≤ n) (h1 : n ≤ 22) (h2 : 0 ≤ k) (h3 : k ≤ n) : (bps n k).length ≤ 22 ∧ (∀ q ∈ bps n k, 1 ≤ q.1 ∧ 1 ≤ q.2) ∧ bin n k < 2 ^ 60 := by
  have h := bin_all n.toNat (tn_le h1) k.toNat (Nat.lt_succ_of_le (Int.toNat_le_toNat h3))
  rw [Int.toNat_of_nonneg h0, Int.toNat_of_nonneg h2] at h
  exact h
theorem f_binomial {w : World} {mean : ExcName → Option Value} {mg mb : Str → Option Value} {p : Int} {tp : Tok} (hp : 3 ≤ p) (hp2 : p ≤ 9) {news : Led} {n k : Int} {tn tk9 : Tok} (hn : 0 ≤ n) (hn2 : n ≤ 22) (hk0 : 0 ≤ k) (hk2 : k ≤ 24) :
   Does w mean mg mb 156 [.int n tn, .int k tk9, .int p tp, .ref 170] news 40 200 (IsL (dg (2 ^ p.toNat) (bin n k))) := by
  w_top off
  unfold Does
  k_fill
  intro dp un gd cn cs a ccd cl outer A₀ base h₀ L m s Q E B F X N T hk hdp hun hret
  refine wpAny_call ?_
  k_dflt (refine' code_def (binds := [(Str.ofString "n", Value.int n tn), (Str.ofString "k", Value.int k tk9), (Str.ofString "w", Value.int p tp), (Str.ofString "mul", Value.ref 170)]) ?k1 ?k2 ?k3 ?k4 ?k5 ?kA ?kF ?kK ?k6 ?k7 ?k8 ?k9 ?kB ?_ ?c2 ?c3 ?c4 ?c5; (case kA => exact rfl); (case kF => exact rfl); (case kK => assumption); (case k1 => k_asm); (case k2 => k_asm); (case k3 => k_asm); (case k4 => k_asm); (case k5 => k_asm); (case k6 => k_is); (case k7 => k_is); (case k8 => ktr_room); (case k9 => exact BindsTo.of_eq rfl); (case c5 => decide); (case kB => exact locs rfl); (case c2 => exact rfl); (case c3 => exact rfl); (case c4 => exact rfl); k_whole; intro g' L' h' FG' F' N' B' X' T'; (try dsimp only); (try k_fold))
  replace F' := frB F'
  dsimp only [kstB, List.reverse, List.reverseAux] at F'
  refine fold_m F' ?_; clear F'; intro m1 F'
  refine fold_A ?_; intro A1
  refine gen_tk ?_; intro tk1
  have kMark := kstMark
  k_steps
  refine Stop.on ?_
  k_dflt (refine' use_N ?cD ?cB ?cF ?cX ?cN ?cT ?cK ?cd ?cu ?_; (case cB => k_asm); (case cF => k_asm); (case cX => k_asm); (case cN => k_asm); (case cT => k_asm); (case cD => exact (f_need_count hn) ); (case cK => first | exact rfl | assumption); (case cd => ktr_room); (case cu => ktr_units))
  intro h_ tk_ F_ N_
  skip
  (try dsimp only)
  k_sweep
  (try k_fold)
  k_steps
  refine Stop.on ?_
  k_dflt (refine' use_N ?cD ?cB ?cF ?cX ?cN ?cT ?cK ?cd ?cu ?_; (case cB => k_asm); (case cF => k_asm); (case cX => k_asm); (case cN => k_asm); (case cT => k_asm); (case cD => exact (f_need_count hk0) ); (case cK => first | exact rfl | assumption); (case cd => ktr_room); (case cu => ktr_units))
  intro h_ tk_ F_ N_
  skip
  (try dsimp only)
  k_sweep
  (try k_fold)
  k_steps
  · rename k > n => hgt
    have hz : bin n k = 0 := by rw [bin, if_neg (by omega)]
    rename News _ _ _ (_ :: _) => N9
    exact end_L hret (by k_asm) (by k_asm) (by assumption) (by rw [hz]; exact .nil)
  · rename ¬ n < k => hle
    refine Stop.on ?_
    k_dflt (refine' use_L ?cD ?cB ?cF ?cX ?cN ?cT ?cK ?cd ?cu ?_; (case cB => k_asm); (case cF => k_asm); (case cX => k_asm); (case cN => k_asm); (case cT => k_asm); (case cD => exact (f_sieve hn hn2) ); (case cK => first | exact rfl | assumption); (case cd => ktr_room); (case cu => ktr_units))
    intro r ws kr h_ tk_ F_ N_ lr hIr
    skip
    (try dsimp only)
    k_sweep
    (try k_fold)
    k_steps
    refine Stop.on ?_
    rename Fr _ _ _ _ => F1
    rename News _ _ _ _ => N1
    rename_i l _ lt1 _
    refine list_grow (σ := List Value × List (Int × Int) × Nat × Led) (fun c => (r, listOf ws.toArray kr) :: (l, listOf c.1.toArray c.2.2.1) :: c.2.2.2) (fun _ => []) [Str.ofString "prime", Str.ofString "many"]
      (fun I i c => PairsAre c.2.2.2 c.1 c.2.1 ∧ c.2.1 = (((pr n).take i).map (bp n k)).filter (fun q => decide (0 < q.2)) ∧ c.2.1.length ≤ i ∧ (∀ q ∈ news, q ∈ c.2.2.2) ∧ (∀ q ∈ c.2.2.2, q.1 ≠ l) ∧ (∀ q ∈ c.2.2.2, q.1 ≠ I) ∧ l ≠ I ∧ r ≠ I) ([], [], 0, news) rfl (fun _ _ _ _ => .head _) hIr ?_ F1 N1 (.head _) (fun _ h => nomatch h) ?_ ?_ ?_
    · rintro I i c ⟨_, _, _, _, _, h6, h7, h8⟩ q hq
      rcases List.mem_cons.mp hq with rfl | hq
      · exact h8
      rcases List.mem_cons.mp hq with rfl | hq
      · exact h7
      exact h6 q hq
    · intro I hI
      exact ⟨trivial, rfl, Nat.le_refl _, fun _ h => h, fun q hq => Nat.ne_of_lt (lt1 q hq), fun q hq => Nat.ne_of_lt (hI q (.tail _ (.tail _ hq))), Nat.ne_of_lt (hI _ (.tail _ (.head _))), Nat.ne_of_lt (hI _ (.head _))⟩
    · refine fun i => fa4 fun cv qs kk nw => ?_
      intro x t u h tk I o hx hP F2 N2 K kr kb fin kc
      dsimp only [kstB] at hP F2 N2 fin
      have hPA := hP.1
      have hqs := hP.2.1
      have hql := hP.2.2.1
      have hsub := hP.2.2.2.1
      have hol := hP.2.2.2.2.1
      have hoI := hP.2.2.2.2.2.1
      have hlI := hP.2.2.2.2.2.2.1
      have hrI := hP.2.2.2.2.2.2.2
      clear hP
      have hxr := pr_rng hn hn2 (List.mem_of_getElem? hx)
      have hcl := hPA.length
      have hi22 : i < 22 := Nat.lt_of_lt_of_le (List.getElem?_eq_some_iff.mp hx).1 (pr_len hn hn2)
      have hlI' : I ≠ l := hlI.symm
      have hrl : r ≠ l := Nat.ne_of_gt (lr _ (.head _))
      refine fold_m (L := L') F2 ?_; clear F2; intro m2 F2
      show wpAny _ _ _ _ _ { s with heap := h, toks := tk }
      (try k_fold)
      refine fold_N (L := L') N2 ?_; clear N2; intro N2
      have hnk : 0 ≤ n - k := by omega
      have hxd : (((pr n).take (i + 1)).map (bp n k)).filter (fun q => decide (0 < q.2)) = qs ++ [bp n k x].filter (fun q => decide (0 < q.2)) := by
        rw [List.take_add_one, hx, List.map_append, List.filter_append, hqs]
        rfl
      k_steps
      refine Stop.on ?_
      k_dflt (refine' use_I ?cD ?cB ?cF ?cX ?cN ?cT ?cK ?cd ?cu ?_; (case cB => k_asm); (case cF => k_asm); (case cX => k_asm); (case cN => k_asm); (case cT => k_asm); (case cD => exact (f_factorial_exponent hn hxr.1 (by omega)) ); (case cK => first | exact rfl | assumption); (case cd => ktr_room); (case cu => ktr_units))
      intro ta h_ tk_ F_ N_
      skip
      (try dsimp only)
      k_sweep
      (try k_fold)
      k_steps
      refine Stop.on ?_
      k_dflt (refine' use_I ?cD ?cB ?cF ?cX ?cN ?cT ?cK ?cd ?cu ?_; (case cB => k_asm); (case cF => k_asm); (case cX => k_asm); (case cN => k_asm); (case cT => k_asm); (case cD => exact (f_factorial_exponent hk0 hxr.1 (by omega)) ); (case cK => first | exact rfl | assumption); (case cd => ktr_room); (case cu => ktr_units))
      intro tb h_ tk_ F_ N_
      skip
      (try dsimp only)
      k_sweep
      (try k_fold)
      k_steps
      refine Stop.on ?_
      k_dflt (refine' use_I ?cD ?cB ?cF ?cX ?cN ?cT ?cK ?cd ?cu ?_; (case cB => k_asm); (case cF => k_asm); (case cX => k_asm); (case cN => k_asm); (case cT => k_asm); (case cD => exact (f_factorial_exponent hnk hxr.1 (by omega)) ); (case cK => first | exact rfl | assumption); (case cd => ktr_room); (case cu => ktr_units))
      intro tc h_ tk_ F_ N_
      skip
      (try dsimp only)
      k_sweep
      (try k_fold)
      k_steps
      · rename 0 < fx n x - fx k x - fx (n - k) x => hpos
        rw [show [bp n k x].filter (fun q => decide (0 < q.2)) = [bp n k x] from List.filter_cons_of_pos (by simpa [bp] using hpos)] at hxd
        rename Fr _ _ _ _ => F5
        rename News _ _ _ _ => N5
        rename _ ∧ _ ∧ _ ∧ AllLt _ _ => ltD
        simp only [List.push_toArray] at N5
        refine fin ⟨cv ++ [_], qs ++ [bp n k x], kk + 1, (_, tup2 x (fx n x - fx k x - fx (n - k) x) t _) :: nw⟩ _ _ _ _ F5 N5 (by kst_in) (by kst_in) (fun _ h => nomatch h) (by dsimp only [m2]; ksw_same)
          ⟨PairsAre.snoc (q := bp n k x) ⟨_, t, _, rfl, .head _⟩ (hPA.mono fun _ h => .tail _ h), hxd.symm, by show (qs ++ [_]).length ≤ _; rw [List.length_append, List.length_singleton]; omega, fun q hq => .tail _ (hsub q hq), ?_, ?_, hlI, hrI⟩
        · intro q hq
          rcases List.mem_cons.mp hq with rfl | hq
          · exact Nat.ne_of_gt ltD.2.2.1
          · exact hol q hq
        · intro q hq
          rcases List.mem_cons.mp hq with rfl | hq
          · exact Nat.ne_of_gt ltD.1
          · exact hoI q hq
      · rename ¬ 0 < fx n x - fx k x - fx (n - k) x => hpos
        rw [show [bp n k x].filter (fun q => decide (0 < q.2)) = [] from List.filter_cons_of_neg (by simpa [bp] using hpos), List.append_nil] at hxd
        rename Fr _ _ _ _ => F5
        rename News _ _ _ _ => N5
        exact fin ⟨cv, qs, kk, nw⟩ _ _ _ _ F5 N5 (by kst_in) (by kst_in) (fun _ h => nomatch h) (by dsimp only [m2]; ksw_same) ⟨hPA, hxd.symm, Nat.le_succ_of_le hql, hsub, hol, hoI, hlI, hrI⟩
    · refine fun I => fa4 fun cv qs kk nw => ?_
      intro u h tk hP F2 N2
      dsimp only [kstB] at hP F2 N2
      have hPA := hP.1
      have hqs := hP.2.1
      have hql := hP.2.2.1
      have hsub := hP.2.2.2.1
      have hol := hP.2.2.2.2.1
      have hoI := hP.2.2.2.2.2.1
      have hlI := hP.2.2.2.2.2.2.1
      have hrI := hP.2.2.2.2.2.2.2
      clear hP
      refine fold_m (L := L') F2 ?_; clear F2; intro m2 F2
      refine fold_N (L := L') N2 ?_; clear N2; intro N2
      rw [List.take_length] at hqs
      have hb : qs = bps n k := hqs
      subst hb
      obtain ⟨hs1, hs2, hs3⟩ := bin_ok hn hn2 hk0 (by omega)
      have hbn : bin n k = prd (pws (bps n k)) := by rw [bin, if_pos (by omega)]
      rw [hbn] at hs3 hret
      k_steps
      refine Stop.on ?_
      k_dflt (refine' use_L ?cD ?cB ?cF ?cX ?cN ?cT ?cK ?cd ?cu ?_; (case cB => k_asm); (case cF => k_asm); (case cX => k_asm); (case cN => k_asm); (case cT => k_asm); (case cD => exact (f_product_of_powers hp hp2 22 (.tail _ (.head _)) (hPA.mono fun _ h => .tail _ (.tail _ h)) hs2 (Int.lt_trans hs3 (by decide)) hs1 (by omega)) ); (case cK => first | exact rfl | assumption); (case cd => ktr_room); (case cu => ktr_units))
      intro r3 ws3 kr3 h_ tk_ F_ N_ lr3 hIr3
      skip
      (try dsimp only)
      k_sweep
      (try k_fold)
      k_steps
      exact end_L hret (by k_asm) (news_sub (by k_asm) (fun q hq => by
        rcases List.mem_cons.mp hq with rfl | hq
        · exact .head _
        · exact .tail _ (.tail _ (.tail _ (hsub q hq))))) (fun q hq => lr3 q (.tail _ (.tail _ (hsub q hq)))) hIr3
end
section
noncomputable def cat (s : Int) : Int := bin (2 * s) s - bin (2 * s) (s + 1)
theorem cat_all : ∀ s : Nat, s < 12 → ∀ w ∈ ws, 0 ≤ bin (2 * s) s ∧ bin (2 * s) s < 2 ^ 60 ∧ 0 ≤ bin (2 * s) (s + 1) ∧ bin (2 * s) (s + 1) < 2 ^ 60 ∧ 0 ≤ cmpM (dg (2 ^ w.toNat) (bin (2 * s) s)) (dg (2 ^ w.toNat) (bin (2 * s) (s + 1))) ∧
  nrm (subS (2 ^ w.toNat) (dg (2 ^ w.toNat) (bin (2 * s) s)) (dg (2 ^ w.toNat) (bin (2 * s) (s + 1))) (dg (2 ^ w.toNat) (bin (2 * s) s)).length).1 = dg (2 ^ w.toNat) (cat s) := by decide +kernel
theorem dig_512 {b : Int} {xs : List Int} (hb : b ≤ 512) (h : Dig b xs) : Dig 512 xs := fun x hx => ⟨(h x hx).1, Int.lt_of_lt_of_le (h x hx).2 hb⟩
theorem f_catalan {w : World} {mean : ExcName → Option Value} {mg mb : Str → Option Value} {p : Int} {tp : Tok} (hp : 3 ≤ p) (hp2 : p ≤ 9) {news : Led} {n : Int} {tn : Tok} (hn : 0 ≤ n) (hn2 : n ≤ 11) :
   Does w mean mg mb 163 [.int n tn, .int p tp, .ref 170] news 70 320 (IsL (dg (2 ^ p.toNat) (cat n))) := by
  w_top off
  unfold Does
  k_fill
  intro dp un gd cn cs a ccd cl outer A₀ base h₀ L m s Q E B F X N T hk hdp hun hret
  refine wpAny_call ?_
  k_dflt (refine' code_def (binds := [(Str.ofString "n", Value.int n tn), (Str.ofString "w", Value.int p tp), (Str.ofString "mul", Value.ref 170)]) ?k1 ?k2 ?k3 ?k4 ?k5 ?kA ?kF ?kK ?k6 ?k7 ?k8 ?k9 ?kB ?_ ?c2 ?c3 ?c4 ?c5; (case kA => exact rfl); (case kF => exact rfl); (case kK => assumption); (case k1 => k_asm); (case k2 => k_asm); (case k3 => k_asm); (case k4 => k_asm); (case k5 => k_asm); (case k6 => k_is); (case k7 => k_is); (case k8 => ktr_room); (case k9 => exact BindsTo.of_eq rfl); (case c5 => decide); (case kB => exact locs rfl); (case c2 => exact rfl); (case c3 => exact rfl); (case c4 => exact rfl); k_whole; intro g' L' h' FG' F' N' B' X' T'; (try dsimp only); (try k_fold))
  replace F' := frB F'
  dsimp only [kstB, List.reverse, List.reverseAux] at F'
  refine fold_m F' ?_; clear F'; intro m1 F'
  refine fold_A ?_; intro A1
  refine gen_tk ?_; intro tk1
  have kMark := kstMark
  have hbs := base_ge hp hp2
  have h := cat_all n.toNat (tn_le hn2) p (in_ws hp hp2)
  rw [Int.toNat_of_nonneg hn] at h
  obtain ⟨h1, h2, h3, h4, h5, h6⟩ := h
  k_steps
  refine Stop.on ?_
  k_dflt (refine' use_N ?cD ?cB ?cF ?cX ?cN ?cT ?cK ?cd ?cu ?_; (case cB => k_asm); (case cF => k_asm); (case cX => k_asm); (case cN => k_asm); (case cT => k_asm); (case cD => exact (f_need_count hn) ); (case cK => first | exact rfl | assumption); (case cd => ktr_room); (case cu => ktr_units))
  intro h_ tk_ F_ N_
  skip
  (try dsimp only)
  k_sweep
  (try k_fold)
  k_steps
  refine Stop.on ?_
  k_dflt (refine' use_L ?cD ?cB ?cF ?cX ?cN ?cT ?cK ?cd ?cu ?_; (case cB => k_asm); (case cF => k_asm); (case cX => k_asm); (case cN => k_asm); (case cT => k_asm); (case cD => exact (f_binomial hp hp2 (by omega) (by omega) hn (by omega)) ); (case cK => first | exact rfl | assumption); (case cd => ktr_room); (case cu => ktr_units))
  intro r1 ws1 kr1 h_ tk_ F_ N_ lr1 hIr1
  skip
  (try dsimp only)
  k_sweep
  (try k_fold)
  k_steps
  refine Stop.on ?_
  k_dflt (refine' use_L ?cD ?cB ?cF ?cX ?cN ?cT ?cK ?cd ?cu ?_; (case cB => k_asm); (case cF => k_asm); (case cX => k_asm); (case cN => k_asm); (case cT => k_asm); (case cD => exact (f_binomial hp hp2 (by omega) (by omega) (by omega) (by omega)) ); (case cK => first | exact rfl | assumption); (case cd => ktr_room); (case cu => ktr_units))
  intro r2 ws2 kr2 h_ tk_ F_ N_ lr2 hIr2
  skip
  (try dsimp only)
  k_sweep
  (try k_fold)
  k_steps
  refine Stop.on ?_
  k_dflt (refine' use_L ?cD ?cB ?cF ?cX ?cN ?cT ?cK ?cd ?cu ?_; (case cB => k_asm); (case cF => k_asm); (case cX => k_asm); (case cN => k_asm); (case cT => k_asm); (case cD => exact (f_sub (.tail _ (.head _)) (.head _) hIr1 hIr2 (dg_len hbs.1 400 _ h1 (Int.lt_trans h2 (by decide))) (dg_len hbs.1 400 _ h3 (Int.lt_trans h4 (by decide))) hp hp2 (dig_512 hbs.2 (dig_dg hbs.1 _ h1)) (dig_512 hbs.2 (dig_dg hbs.1 _ h3)) h5) ); (case cK => first | exact rfl | assumption); (case cd => ktr_room); (case cu => ktr_units))
  intro r3 ws3 kr3 h_ tk_ F_ N_ lr3 hIr3
  skip
  (try dsimp only)
  k_sweep
  (try k_fold)
  k_steps
  rw [h6] at hIr3
  exact end_L hret (by k_asm) (news_sub (by k_asm) (by kst_in)) (fun q hq => lr3 q (.tail _ (.tail _ hq))) hIr3
end
section
theorem prd_at {xs : List Int} {i : Nat} {x : Int} (h : xs[i]? = some x) : prd (xs.take (i + 1)) = prd (xs.take i) * x := by
  rw [List.take_add_one, h, prd_append]
  show _ * (x * 1) = _
  rw [Int.mul_one]
theorem f_law_product_list {w : World} {mean : ExcName → Option Value} {mg mb : Str → Option Value} {news : Led} {l : Addr} {vs : List Value} {k : Nat} {xs : List Int} (hl : (l, listOf vs.toArray k) ∈ news) (hI : IntsAre vs xs) (h1 : ∀ c ∈ xs, 1 ≤ c) (h2 : prd xs < 2 ^ 100) (h3 : ∀ c ∈ xs, c ≤ 1000) :
   Does w mean mg mb 208 [.ref l] news 2 16 (IsInt (prd xs)) := by
  w_top off
  unfold Does
  k_fill
  intro dp un gd cn cs a ccd cl outer A₀ base h₀ L m s Q E B F X N T hk hdp hun hret
  refine wpAny_call ?_
  k_dflt (refine' code_def (binds := [(Str.ofString "some", Value.ref l)]) ?k1 ?k2 ?k3 ?k4 ?k5 ?kA ?kF ?kK ?k6 ?k7 ?k8 ?k9 ?kB ?_ ?c2 ?c3 ?c4 ?c5; (case kA => exact rfl); (case kF => exact rfl); (case kK => assumption); (case k1 => k_asm); (case k2 => k_asm); (case k3 => k_asm); (case k4 => k_asm); (case k5 => k_asm); (case k6 => k_is); (case k7 => k_is); (case k8 => ktr_room); (case k9 => exact BindsTo.of_eq rfl); (case c5 => decide); (case kB => exact locs rfl); (case c2 => exact rfl); (case c3 => exact rfl); (case c4 => exact rfl); k_whole; intro g' L' h' FG' F' N' B' X' T'; (try dsimp only); (try k_fold))
  replace F' := frB F'
  dsimp only [kstB, List.reverse, List.reverseAux] at F'
  refine fold_m F' ?_; clear F'; intro m1 F'
  refine fold_A ?_; intro A1
  refine gen_tk ?_; intro tk1
  have kMark := kstMark
  k_steps
  refine Stop.on ?_
  rename Fr _ _ _ _ => F1
  rename News _ _ _ _ => N1
  refine list_inv (σ := Int × Tok) (fun _ => news) (fun c => [(Str.ofString "found", .int c.1 c.2)]) [Str.ofString "one"] (fun i c => c.1 = prd (xs.take i)) (1, _) rfl (fun _ => hl) hI (fun _ => rfl) F1 N1 (by kst_all) rfl ?_ ?_
  · refine fun i => fa2 fun f tf => ?_
    intro x t u h tk I o hx he hoff F2 N2 K kr kb fin kc
    dsimp only [kstB] at he hoff F2 N2 fin
    have hs := prd_split i h1
    have hx1 := h1 x (List.mem_of_getElem? hx)
    have hx2 := h3 x (List.mem_of_getElem? hx)
    have hf1 : 1 ≤ f ∧ f < 2 ^ 100 := by rw [he]; exact ⟨hs.2.2.2.2.2.1, Int.lt_of_le_of_lt hs.2.2.2.1 h2⟩
    refine fold_m (L := L') F2 ?_; clear F2; intro m2 F2
    show wpAny _ _ _ _ _ { s with heap := h, toks := tk }
    (try k_fold)
    refine fold_N (L := L') N2 ?_; clear N2; intro N2
    k_steps
    rename Fr _ _ _ _ => F3
    rename News _ _ _ _ => N3
    exact fin (_, _) _ _ _ _ F3 N3 (by kst_in) (by kst_in) (by kst_all) (by dsimp only [m2]; ksw_same) (by show f * x = _; rw [prd_at hx, he])
  · refine fa2 fun f tf => ?_
    intro u h tk he F2 N2
    dsimp only [kstB] at he F2 N2
    refine fold_m (L := L') F2 ?_; clear F2; intro m2 F2
    refine fold_N (L := L') N2 ?_; clear N2; intro N2
    rw [List.take_length] at he
    subst he
    k_steps
    exact end_I hret (by k_asm) (by k_asm)
theorem f_law_product_range {w : World} {mean : ExcName → Option Value} {mg mb : Str → Option Value} {news : Led} {R : Addr} {a9 b9 c9 : Int} {t9 u9 v9 : Tok} (hR : (R, rgObj a9 b9 c9 t9 u9 v9) ∈ news) (hsm : Builtin.Range.small a9 b9 c9 = true) (h1 : ∀ c ∈ rgz a9 b9 c9, 1 ≤ c) (h2 : prd (rgz a9 b9 c9) < 2 ^ 100) (h3 : ∀ c ∈ rgz a9 b9 c9, c ≤ 1000) :
   Does w mean mg mb 208 [.ref R] news 2 16 (IsInt (prd (rgz a9 b9 c9))) := by
  w_top off
  unfold Does
  k_fill
  intro dp un gd cn cs a ccd cl outer A₀ base h₀ L m s Q E B F X N T hk hdp hun hret
  refine wpAny_call ?_
  k_dflt (refine' code_def (binds := [(Str.ofString "some", Value.ref R)]) ?k1 ?k2 ?k3 ?k4 ?k5 ?kA ?kF ?kK ?k6 ?k7 ?k8 ?k9 ?kB ?_ ?c2 ?c3 ?c4 ?c5; (case kA => exact rfl); (case kF => exact rfl); (case kK => assumption); (case k1 => k_asm); (case k2 => k_asm); (case k3 => k_asm); (case k4 => k_asm); (case k5 => k_asm); (case k6 => k_is); (case k7 => k_is); (case k8 => ktr_room); (case k9 => exact BindsTo.of_eq rfl); (case c5 => decide); (case kB => exact locs rfl); (case c2 => exact rfl); (case c3 => exact rfl); (case c4 => exact rfl); k_whole; intro g' L' h' FG' F' N' B' X' T'; (try dsimp only); (try k_fold))
  replace F' := frB F'
  dsimp only [kstB, List.reverse, List.reverseAux] at F'
  refine fold_m F' ?_; clear F'; intro m1 F'
  refine fold_A ?_; intro A1
  refine gen_tk ?_; intro tk1
  have kMark := kstMark
  k_steps
  refine Stop.on ?_
  rename Fr _ _ _ _ => F1
  rename News _ _ _ _ => N1
  have hR1 := (N1 _ hR).1
  refine range_inv (σ := Int × Tok) (fun _ => news) (fun c => [(Str.ofString "found", .int c.1 c.2)]) [Str.ofString "one"] (fun i c => c.1 = prd ((rgz a9 b9 c9).take i)) (1, _) rfl hR1 hsm (rangeSize_toNat _ _ _) (fun _ => rfl) F1 N1 (by kst_all) rfl ?_ ?_
  · refine fun i => fa2 fun f tf => ?_
    intro t u h tk I o hi he hoff F2 N2 K kr kb fin kc
    dsimp only [kstB] at he hoff F2 N2 fin
    have hx : (rgz a9 b9 c9)[i]? = some (a9 + (i : Int) * c9) := rg_at hi
    generalize a9 + (i : Int) * c9 = x at *
    have hs := prd_split i h1
    have hx1 := h1 x (List.mem_of_getElem? hx)
    have hx2 := h3 x (List.mem_of_getElem? hx)
    have hf1 : 1 ≤ f ∧ f < 2 ^ 100 := by rw [he]; exact ⟨hs.2.2.2.2.2.1, Int.lt_of_le_of_lt hs.2.2.2.1 h2⟩
    refine fold_m (L := L') F2 ?_; clear F2; intro m2 F2
    show wpAny _ _ _ _ _ { s with heap := h, toks := tk }
    (try k_fold)
    refine fold_N (L := L') N2 ?_; clear N2; intro N2
    k_steps
    rename Fr _ _ _ _ => F3
    rename News _ _ _ _ => N3
    exact fin (_, _) _ _ _ _ F3 N3 (by kst_in) (by kst_in) (by kst_all) (by dsimp only [m2]; ksw_same) (by show f * x = _; rw [prd_at hx, he])
  · refine fa2 fun f tf => ?_
    intro u h tk he F2 N2
    dsimp only [kstB] at he F2 N2
    refine fold_m (L := L') F2 ?_; clear F2; intro m2 F2
    refine fold_N (L := L') N2 ?_; clear N2; intro N2
    rw [List.take_of_length_le (by rw [rgz, rg_len]; exact Nat.le_refl _)] at he
    subst he
    k_steps
    exact end_I hret (by k_asm) (by k_asm)
end
section
local macro_rules | `(tactic| walk_at "eval ListComp") => `(tactic| refine Stop.out ?_)
local macro_rules | `(tactic| walk_at "CompSrcT") => `(tactic| refine Stop.out ?_)
local macro_rules | `(tactic| walk_at "CompEnd") => `(tactic| refine Stop.out ?_)
noncomputable def dvs (x : Int) : List Int := (rgz 2 x 1).filter fun p => decide (x.fmod p = 0)
noncomputable def lpr (n : Int) : List Int := (rgz 2 (n + 1) 1).filter fun x => decide (dvs x = [])
theorem f_law_primes {w : World} {mean : ExcName → Option Value} {mg mb : Str → Option Value} {news : Led} {n : Int} {tn : Tok} (hn : 0 ≤ n) (hn2 : n ≤ 22) :
   Does w mean mg mb 218 [.int n tn] news 3 120 (IsL (lpr n)) := by
  w_top off
  unfold Does
  k_fill
  intro dp un gd cn cs a ccd cl outer A₀ base h₀ L m s Q E B F X N T hk hdp hun hret
  refine wpAny_call ?_
  k_dflt (refine' code_def (binds := [(Str.ofString "n", Value.int n tn)]) ?k1 ?k2 ?k3 ?k4 ?k5 ?kA ?kF ?kK ?k6 ?k7 ?k8 ?k9 ?kB ?_ ?c2 ?c3 ?c4 ?c5; (case kA => exact rfl); (case kF => exact rfl); (case kK => assumption); (case k1 => k_asm); (case k2 => k_asm); (case k3 => k_asm); (case k4 => k_asm); (case k5 => k_asm); (case k6 => k_is); (case k7 => k_is); (case k8 => ktr_room); (case k9 => exact BindsTo.of_eq rfl); (case c5 => decide); (case kB => exact locs rfl); (case c2 => exact rfl); (case c3 => exact rfl); (case c4 => exact rfl); k_whole; intro g' L' h' FG' F' N' B' X' T'; (try dsimp only); (try k_fold))
  replace F' := frB F'
  dsimp only [kstB, List.reverse, List.reverseAux] at F'
  refine fold_m F' ?_; clear F'; intro m1 F'
  refine fold_A ?_; intro A1
  refine gen_tk ?_; intro tk1
  have kMark := kstMark
  k_steps
  refine Stop.on ?_
  k_dflt (refine ListComp_C (by k_asm) (by with_unfolding_all rfl) (by rfl) (by decide) (fun _ => by rfl) (fun _ => by rfl) (fun _ _ => by rfl) ?_)
  k_steps
  rename Fr _ _ _ _ => F1
  rename News _ _ _ _ => N1
  rename IsRange _ _ _ _ _ _ _ _ => hR
  have hrn : (Builtin.Range.rangeSize 2 (n + 1) 1).toNat ≤ 22 := by rw [rangeSize_nat]; omega
  refine ⟨_, _, _, _, _, _, _, news, fun i ys => IntsAre ys (((rgz 2 (n + 1) 1).take i).filter fun x => decide (dvs x = [])), rfl, rfl, F1, N1, hR, small_one (by omega) (by omega) (by omega) (by omega), rangeSize_toNat _ _ _, by rw [sizeLine_eq]; omega, .nil, ?_, ?_⟩
  · intro gg I hlt i ys hi hJ t oI C oC K oK D m₂ h tk E' hC hK F2 N2 hord
    clear F1 N1
    have hx : (rgz 2 (n + 1) 1)[i]? = some (2 + (i : Int) * 1) := rg_at hi
    have hii := rs_lt (by decide) hi
    rw [Int.mul_one] at hx hii
    have hx0 : 2 ≤ 2 + (i : Int) := by omega
    generalize 2 + (i : Int) = x at *
    k_steps
    refine Stop.on ?_
    k_dflt (refine LCt.ListComp_T (F₀ := by k_asm) (by with_unfolding_all rfl) (by decide) (by rfl) (by decide) (by rfl) ?_)
    k_steps
    refine Stop.on ?_
    rename Fr _ _ _ _ => F3
    rename News _ _ _ _ => N3
    rename IsRange _ _ 2 x 1 _ _ _ => hR3
    have hrn3 : (Builtin.Range.rangeSize 2 x 1).toNat ≤ 22 := by rw [rangeSize_nat]; omega
    refine LCt.CompSrcT.range (by rfl) F3 N3 hR3 (small_one (by omega) (by omega) (by omega) (by omega)) (rangeSize_toNat _ _ _) (by rw [sizeLine_eq]; omega) ?_
    intro gg3
    refine comp_invT (fun j zs nw => (∀ p ∈ (I, oI) :: (C, oC) :: (K, oK) :: (D, LCg.lst ys) :: news, p ∈ nw) ∧ IntsAre zs (((rgz 2 x 1).take j).filter fun p => decide (x.fmod p = 0))) (Builtin.Range.rangeSize 2 x 1).toNat ?_ ?_ _ 0 [] _ (Nat.zero_add _) ⟨fun _ h => h, .nil⟩
    · rintro j zs nw hj ⟨hsub, hZ⟩ v I2 oI2 C2 oC2 D2 m2 h2 tk2 E2 ⟨t2, rfl⟩ hC2 hm2 F4 N4 off4 ne4
      clear F3 N3
      have hy : (rgz 2 x 1)[j]? = some (2 + (j : Int) * 1) := rg_at hj
      have hjj := rs_lt (by decide) hj
      rw [Int.mul_one] at hy hjj
      have hy0 : 2 ≤ 2 + (j : Int) := by omega
      generalize 2 + (j : Int) = y at *
      have hK2 := hsub _ (.tail _ (.tail _ (.head _)))
      have hxd : ((rgz 2 x 1).take (j + 1)).filter (fun p => decide (x.fmod p = 0)) = ((rgz 2 x 1).take j).filter (fun p => decide (x.fmod p = 0)) ++ [y].filter (fun p => decide (x.fmod p = 0)) := by
        rw [List.take_add_one, hy, List.filter_append]
        rfl
      k_steps
      · rename x.fmod y = 0 => hm
        rw [show [y].filter (fun p => decide (x.fmod p = 0)) = [y] from List.filter_cons_of_pos (by simpa using hm)] at hxd
        refine Stop.on ?_
        rename Fr _ _ _ _ => F5
        rename News _ _ _ _ => N5
        exact LCg.CompEnd.intro F5 N5 nw (fun _ h => h) off4 trivial ⟨hsub, by rw [hxd]; exact hZ.append (.cons _ _ .nil)⟩
      · rename x.fmod y ≠ 0 => hm
        rw [show [y].filter (fun p => decide (x.fmod p = 0)) = [] from List.filter_cons_of_neg (by simpa using hm), List.append_nil] at hxd
        refine Stop.on ?_
        rename Fr _ _ _ _ => F5
        rename News _ _ _ _ => N5
        exact LCg.CompEnd.intro F5 N5 nw (fun _ h => h) off4 trivial ⟨hsub, by rw [hxd]; exact hZ⟩
    · rintro zs nw ⟨hsub, hZ⟩
      clear F3 N3
      rw [List.take_of_length_le (by rw [rgz, rg_len]; exact Nat.le_refl _)] at hZ
      replace hZ : IntsAre zs (dvs x) := hZ
      have hK2 := hsub _ (.tail _ (.tail _ (.head _)))
      have hxd : ((rgz 2 (n + 1) 1).take (i + 1)).filter (fun x => decide (dvs x = [])) = ((rgz 2 (n + 1) 1).take i).filter (fun x => decide (dvs x = [])) ++ [x].filter (fun x => decide (dvs x = [])) := by
        rw [List.take_add_one, hx, List.filter_append]
        rfl
      k_steps
      refine Stop.on ?_
      rename News _ _ _ _ => N5
      refine ke_eq_ints (News.isList N5 (.tail _ (.head _))) (News.isList N5 (.head _)) hZ .nil (by dsimp only [A1]; ktr_units) ?_
      by_cases hd : dvs x = []
      · rw [decide_eq_true hd]
        rw [show [x].filter (fun x => decide (dvs x = [])) = [x] from List.filter_cons_of_pos (by simpa using hd)] at hxd
        k_steps
        exact ⟨_, _, rfl, by k_asm, news_sub N5 (fun p hp => .tail _ (.tail _ (hsub p hp))), by rw [hxd]; exact hJ.append (.cons _ _ .nil)⟩
      · rw [decide_eq_false hd]
        rw [show [x].filter (fun x => decide (dvs x = [])) = [] from List.filter_cons_of_neg (by simpa using hd), List.append_nil] at hxd
        k_steps
        exact ⟨_, _, rfl, by k_asm, news_sub N5 (fun p hp => .tail _ (.tail _ (hsub p hp))), by rw [hxd]; exact hJ⟩
  · intro D h tk ys F2 N2 lt2 hJ
    rw [List.take_of_length_le (by rw [rgz, rg_len]; exact Nat.le_refl _)] at hJ
    clear F1 N1
    k_steps
    exact end_L hret (by k_asm) (by k_asm) lt2 hJ
end
section
local macro_rules | `(tactic| k_all) => `(tactic| with_reducible assumption)
theorem fmod_many {m : Int} (h : 0 < m) (x : Int) : 0 ≤ x.fmod m ∧ x.fmod m < m := by
  rw [Int.fmod_eq_emod_of_nonneg _ (by omega)]
  exact ⟨Int.emod_nonneg _ (by omega), Int.emod_lt_of_pos _ h⟩
theorem f_law_draw {w : World} {mean : ExcName → Option Value} {mg mb : Str → Option Value} {news : Led} {P g : Addr} {i sd many : Int} {ti ts tm : Tok} {n0 gn : Nat} {gv : List Value} {gs : List Int} :
    ∀ (dp un : Nat) (gd : Option (List Code)) (cn : Str) (cs : Scope) (a : Addr) (ccd : Value) (cl : List (Str × Addr)) (outer : List Env) (A₀ : Around) (base h₀ : Heap) (L : Addr) (m : Str → Option Value) (s : Shared) (Q E : Value → Shared → Prop)
    (B : Below A₀ base outer h₀) (F : Fr h₀ L s.heap m) (X : (hd.heap_39 w.params).In h₀) (N : News h₀ L s.heap ((P, listOf #[.ref g, .int i ti, .int sd ts] n0) :: news)) (T : Top hd.view_39 (looseW hd.view_39 []) mean mg mb h₀) (hk : cs.kind = .function)
    (hdp : dp + 1 < recursionLimit) (hun : un + 16 < cLine) (hg : (g, listOf gv.toArray gn) ∈ news) (hI : IntsAre gv gs) (hlen : gs.length ≤ 20) (h0 : 0 ≤ i) (h1 : i ≤ gs.length) (h2 : 0 ≤ sd) (h3 : sd < 2 ^ 30) (hm : 0 < many) (hm2 : many ≤ 100) (hP : ∀ p ∈ news, p.1 ≠ P)
    (hret : ∀ (r : Int) (t : Tok) (i' : Int) (ti' : Tok) (sd' : Int) (ts' : Tok) (h' : Heap) (tk' : Nat), 0 ≤ r → r < many → 0 ≤ i' → i' ≤ gs.length → 0 ≤ sd' → sd' < 2 ^ 30 → Fr h₀ L h' m → News h₀ L h' ((P, listOf #[.ref g, .int i' ti', .int sd' ts'] n0) :: news) → Q (.int r t) { s with heap := h', toks := tk' }),
    wpAny (model PySem.Challenge.rw_nn0011_01.row.prog w) (ktrTop dp un gd cn cs L a ccd cl outer) (call (.ref 177) [.ref P, .int many tm]) Q E s := by
  w_top off
  k_fill
  intro dp un gd cn cs a ccd cl outer A₀ base h₀ L m s Q E B F X N T hk hdp hun hg hI hlen h0 h1 h2 h3 hm hm2 hP hret
  refine wpAny_call ?_
  k_dflt (refine' code_def (binds := [(Str.ofString "pool", Value.ref P), (Str.ofString "many", Value.int many tm)]) ?k1 ?k2 ?k3 ?k4 ?k5 ?kA ?kF ?kK ?k6 ?k7 ?k8 ?k9 ?kB ?_ ?c2 ?c3 ?c4 ?c5; (case kA => exact rfl); (case kF => exact rfl); (case kK => assumption); (case k1 => k_asm); (case k2 => k_asm); (case k3 => k_asm); (case k4 => k_asm); (case k5 => k_asm); (case k6 => k_is); (case k7 => k_is); (case k8 => ktr_room); (case k9 => exact BindsTo.of_eq rfl); (case c5 => decide); (case kB => exact locs rfl); (case c2 => exact rfl); (case c3 => exact rfl); (case c4 => exact rfl); k_whole; intro g' L' h' FG' F' N' B' X' T'; (try dsimp only); (try k_fold))
  replace F' := frB F'
  dsimp only [kstB, List.reverse, List.reverseAux] at F'
  refine fold_m F' ?_; clear F'; intro m1 F'
  refine fold_A ?_; intro A1
  refine gen_tk ?_; intro tk1
  have kMark := kstMark
  have hgl := hI.length
  k_steps
  · rename i < (gs.length : Int) => hlt
    have hr := fmod_many hm (gs.getD (i + 1 - 1).toNat 0)
    exact hret _ _ (i + 1) (_) sd ts _ _ hr.1 hr.2 (by omega) (by omega) h2 h3 (by k_asm) (by k_asm)
  · have hr := fmod_many hm (((sd * 4021 + 577).fmod 1000003).fdiv 7)
    have hs := fmod_many (show (0:Int) < 1000003 by decide) (sd * 4021 + 577)
    exact hret _ _ i ti _ _ _ _ hr.1 hr.2 h0 h1 hs.1 (by omega) (by k_asm) (by k_asm)
end
section
local macro_rules | `(tactic| walk_at "exec Assign cons ListComp") => `(tactic| refine Stop.out ?_)
local macro_rules | `(tactic| walk_at "call type:zip") => `(tactic| refine Stop.out ?_)
local macro_rules | `(tactic| walk_at "eval Name") => `(tactic| ((with_reducible show wpAny _ _ (eval (Expr.Name _ _) (compEnvC _ _ _ _)) _ _ _); k_dflt (refine ldVarK (by assumption) (by assumption) ?_ (by rfl) (by rfl) (by decide))))
noncomputable def triF : Nat → List Int
  | 0 => [1]
  | k + 1 => List.zipWith (· + ·) ([0] ++ triF k) (triF k ++ [0])
theorem triF_len : ∀ k, (triF k).length = k + 1
  | 0 => rfl
  | k + 1 => by
    show (List.zipWith _ _ _).length = _
    rw [List.length_zipWith, List.length_append, List.length_append, triF_len k, List.length_singleton]
    omega
theorem f_law_triangle {w : World} {mean : ExcName → Option Value} {mg mb : Str → Option Value} {news : Led} {n : Int} {tn : Tok} (hn : 0 ≤ n) (hn2 : n ≤ 22) :
   Does w mean mg mb 213 [.int n tn] news 3 24 (IsL (triF n.toNat)) := by
  w_top off
  unfold Does
  k_fill
  intro dp un gd cn cs a ccd cl outer A₀ base h₀ L m s Q E B F X N T hk hdp hun hret
  refine wpAny_call ?_
  k_dflt (refine' code_def (binds := [(Str.ofString "n", Value.int n tn)]) ?k1 ?k2 ?k3 ?k4 ?k5 ?kA ?kF ?kK ?k6 ?k7 ?k8 ?k9 ?kB ?_ ?c2 ?c3 ?c4 ?c5; (case kA => exact rfl); (case kF => exact rfl); (case kK => assumption); (case k1 => k_asm); (case k2 => k_asm); (case k3 => k_asm); (case k4 => k_asm); (case k5 => k_asm); (case k6 => k_is); (case k7 => k_is); (case k8 => ktr_room); (case k9 => exact BindsTo.of_eq rfl); (case c5 => decide); (case kB => exact locs rfl); (case c2 => exact rfl); (case c3 => exact rfl); (case c4 => exact rfl); k_whole; intro g' L' h' FG' F' N' B' X' T'; (try dsimp only); (try k_fold))
  replace F' := frB F'
  dsimp only [kstB, List.reverse, List.reverseAux] at F'
  refine fold_m F' ?_; clear F'; intro m1 F'
  refine fold_A ?_; intro A1
  refine gen_tk ?_; intro tk1
  have kMark := kstMark
  k_steps
  refine Stop.on ?_
  rename Fr _ _ _ _ => F1
  rename News _ _ _ _ => N1
  rename IsRange _ _ _ _ _ _ _ _ => hR
  rename ∀ p ∈ news, p.1 < _ => lt1
  have hnn : Builtin.Range.rangeSize 0 n 1 = (n.toNat : Int) := by rw [rangeSize_nat]; omega
  refine range_grow (σ := Addr × List Value × Nat × Led) (fun c => (c.1, listOf c.2.1.toArray c.2.2.1) :: c.2.2.2) (fun c => [(Str.ofString "row", .ref c.1)]) [Str.ofString "turn"] (fun I i c => IntsAre c.2.1 (triF i) ∧ (∀ q ∈ news, q ∈ c.2.2.2) ∧ (∀ q ∈ news, q.1 < c.1) ∧ (∀ q ∈ c.2.2.2, q.1 ≠ I) ∧ c.1 ≠ I) (_, [_], 0, news) rfl hR (small_one (by omega) (by omega) (by omega) (by omega)) hnn ?_ F1 N1 (by kst_all) ?_ ?_ ?_
  · rintro I i c ⟨_, _, _, h4, h5⟩ q hq
    rcases List.mem_cons.mp hq with rfl | hq
    · exact h5
    · exact h4 q hq
  · intro I hI
    exact ⟨.cons _ _ .nil, fun _ h => h, lt1, fun q hq => Nat.ne_of_lt (hI q (.tail _ hq)), Nat.ne_of_lt (hI _ (.head _))⟩
  · refine fun i => fa4 fun ra rv rk nw => ?_
    intro t u h tk I o hi hP F2 N2 K kr kb fin kc
    dsimp only [kstB] at hP F2 N2 fin
    have hI := hP.1
    have hsub := hP.2.1
    have hlt := hP.2.2.1
    have hoI := hP.2.2.2.1
    have hrI := hP.2.2.2.2
    clear hP
    refine fold_m (L := L') F2 ?_; clear F2; intro m2 F2
    show wpAny _ _ _ _ _ { s with heap := h, toks := tk }
    (try k_fold)
    refine fold_N (L := L') N2 ?_; clear N2; intro N2
    have hlen := triF_len i
    have hrl := hI.length
    k_steps
    refine Stop.on ?_
    k_dflt (refine Assign_zip (by k_asm) (by rfl) (by with_unfolding_all rfl) (by with_unfolding_all rfl) (by decide) (by rfl) (by decide) (by rfl) (by rfl) (by decide) (by rfl) (by rfl) ?_)
    k_steps
    refine Stop.on ?_
    rename Fr _ _ _ _ => F3
    rename News _ _ _ _ => N3
    rename IntsAre _ (triF i ++ [0]) => hIb
    rename IntsAre _ ([0] ++ triF i) => hIa
    refine zip_src (by rfl) F3 N3 (.tail _ (.tail _ (.head _))) (.head _) hIa hIb (by rw [List.length_append, hlen, List.length_singleton]; omega) ?_ ?_
    · intro x y tx ty C m₂ s' Q' E' hns h1 h2 hQ
      clear F3 N3
      k_steps
      exact hQ _ _
    · intro D h3 tk3 out F4 N4 lt4 hI4
      k_steps
      rename Fr _ _ _ _ => F5
      rename News _ _ _ _ => N5
      exact fin (D, out, out.length, nw) _ _ _ _ F5 N5 (by kst_in) (by kst_in) (by kst_all) (by dsimp only [m2]; ksw_same)
        ⟨hI4, hsub, fun q hq => lt4 q (.tail _ (.tail _ (.tail _ (.tail _ (.tail _ (.tail _ (hsub q hq))))))), hoI, Nat.ne_of_gt (lt4 (I, o) (.tail _ (.tail _ (.tail _ (.tail _ (.head _))))))⟩
  · refine fun I => fa4 fun ra rv rk nw => ?_
    intro u h tk hP F2 N2
    dsimp only [kstB] at hP F2 N2
    have hI := hP.1
    have hsub := hP.2.1
    have hlt := hP.2.2.1
    have hoI := hP.2.2.2.1
    have hrI := hP.2.2.2.2
    clear hP
    refine fold_m (L := L') F2 ?_; clear F2; intro m2 F2
    refine fold_N (L := L') N2 ?_; clear N2; intro N2
    k_steps
    exact end_L hret (by k_asm) (news_sub (by k_asm) (fun q hq => by
      rcases List.mem_cons.mp hq with rfl | hq
      · exact .head _
      · exact .tail _ (hsub q hq))) hlt hI
end
section
theorem facts_all : ∀ n : Nat, n < 23 → lpr n = pr n ∧ prd (rgz 1 (n + 1) 1) = fact n ∧ (∀ c ∈ rgz 1 (n + 1) 1, 1 ≤ c ∧ c ≤ 1000) ∧ (∀ c ∈ rgz n 0 (-2), 1 ≤ c ∧ c ≤ 1000) ∧ (∀ c ∈ pr n, 1 ≤ c ∧ c ≤ 1000) ∧ fact n < 2 ^ 80 ∧ 1 ≤ fact n ∧ dfac n < 2 ^ 80 ∧ 1 ≤ dfac n ∧ primo n < 2 ^ 80 ∧ 1 ≤ primo n ∧ 1 ≤ swv n ∧ swv n < 2 ^ 30 := by decide +kernel
theorem facts_sw : ∀ n : Nat, n < 23 → (fact n).fdiv (fact (Int.fdiv n 2) ^ 2) = swv n ∧ (∀ x ∈ pr n, 0 ≤ sx n x ∧ sx n x ≤ 10 ∧ 2 ≤ x ∧ x ≤ 22 ∧ 1 ≤ x ^ (sx n x).toNat ∧ x ^ (sx n x).toNat < 2 ^ 30 ∧ (swv n).fmod (x ^ (sx n x).toNat) = 0 ∧ ((swv n).fdiv (x ^ (sx n x).toNat)).fmod x ≠ 0) := by decide +kernel
theorem facts_tri : ∀ n : Nat, n < 23 → ∀ k : Nat, k < n + 1 → bin n k = (triF n).getD k 0 ∧ 0 ≤ bin n k ∧ bin n k < 2 ^ 60 := by decide +kernel
theorem facts_cat : ∀ s : Nat, s < 12 → ((triF (2 * s)).getD s 0).fdiv (s + 1) = cat s ∧ 0 ≤ cat s ∧ cat s < 2 ^ 60 ∧ 0 ≤ (triF (2 * s)).getD s 0 := by decide +kernel
theorem fact_small : ∀ n : Nat, n < 12 → fact n < 2 ^ 26 := by decide +kernel
theorem fact_26 {n : Int} (h0 : 0 ≤ n) (h1 : n ≤ 11) : fact n < 2 ^ 26 := by
  have h := fact_small n.toNat (tn_le h1)
  rw [Int.toNat_of_nonneg h0] at h
  exact h
theorem pow2_ne {x : Int} (h : 1 ≤ x) : x ^ (2 : Int).toNat ≠ 0 := by
  have h2 := one_le_pow h (2 : Int).toNat
  omega
structure Facts (n : Int) : Prop where
  e1 : lpr n = pr n
  e2 : prd (rgz 1 (n + 1) 1) = fact n
  r1 : ∀ c ∈ rgz 1 (n + 1) 1, 1 ≤ c ∧ c ≤ 1000
  r2 : ∀ c ∈ rgz n 0 (-2), 1 ≤ c ∧ c ≤ 1000
  r3 : ∀ c ∈ pr n, 1 ≤ c ∧ c ≤ 1000
  b1 : fact n < 2 ^ 80
  p1 : 1 ≤ fact n
  b2 : dfac n < 2 ^ 80
  p2 : 1 ≤ dfac n
  b3 : primo n < 2 ^ 80
  p3 : 1 ≤ primo n
  p4 : 1 ≤ swv n
  b4 : swv n < 2 ^ 30
  sw : (fact n).fdiv (fact (n.fdiv 2) ^ 2) = swv n
  pw : ∀ x ∈ pr n, 0 ≤ sx n x ∧ sx n x ≤ 10 ∧ 2 ≤ x ∧ x ≤ 22 ∧ 1 ≤ x ^ (sx n x).toNat ∧ x ^ (sx n x).toNat < 2 ^ 30 ∧ (swv n).fmod (x ^ (sx n x).toNat) = 0 ∧ ((swv n).fdiv (x ^ (sx n x).toNat)).fmod x ≠ 0
theorem facts {n : Int} (h0 : 0 ≤ n) (h1 : n ≤ 22) : Facts n := by
  have h := facts_all n.toNat (tn_le h1)
  have h2 := facts_sw n.toNat (tn_le h1)
  rw [Int.toNat_of_nonneg h0] at h h2
  obtain ⟨e1, e2, r1, r2, r3, b1, p1, b2, p2, b3, p3, p4, b4⟩ := h
  exact ⟨e1, e2, r1, r2, r3, b1, p1, b2, p2, b3, p3, p4, b4, h2.1, h2.2⟩
theorem facts_k {n k : Int} (h0 : 0 ≤ n) (h1 : n ≤ 22) (h2 : 0 ≤ k) (h3 : k ≤ n) : bin n k = (triF n.toNat).getD k.toNat 0 ∧ 0 ≤ bin n k ∧ bin n k < 2 ^ 60 := by
  have h := facts_tri n.toNat (tn_le h1) k.toNat (Nat.lt_succ_of_le (Int.toNat_le_toNat h3))
  rw [Int.toNat_of_nonneg h0, Int.toNat_of_nonneg h2] at h
  exact h
theorem facts_c {s : Int} (h0 : 0 ≤ s) (h1 : s ≤ 11) : ((triF (2 * s).toNat).getD s.toNat 0).fdiv (s + 1) = cat s ∧ 0 ≤ cat s ∧ cat s < 2 ^ 60 ∧ 0 ≤ (triF (2 * s).toNat).getD s.toNat 0 := by
  have h := facts_cat s.toNat (tn_le h1)
  rw [Int.toNat_of_nonneg h0] at h
  have e : 2 * s.toNat = (2 * s).toNat := by omega
  rw [e] at h
  exact h
theorem small_all : ∀ n : Nat, n < 23 → Builtin.Range.small n 0 (0 - 2) = true := by decide +kernel
theorem small_two {n : Int} (h0 : 0 ≤ n) (h1 : n ≤ 22) : Builtin.Range.small n 0 (0 - 2) = true := by
  have h := small_all n.toNat (tn_le h1)
  rw [Int.toNat_of_nonneg h0] at h
  exact h
theorem int_eq {w : World} {mean : ExcName → Option Value} {mg mb : Str → Option Value} {f : Addr} {vs : List Value} {news : Led} {d u : Nat} {x z : Int} (D : Does w mean mg mb f vs news d u (IsInt x)) (e : x = z) : Does w mean mg mb f vs news d u (IsInt z) := e ▸ D
theorem row_len {p x : Int} (hp : 3 ≤ p) (hp2 : p ≤ 9) (h0 : 0 ≤ x) (h1 : x < 2 ^ 80) : (dg (2 ^ p.toNat) x).length ≤ 1000 := Nat.le_trans (dg_len (base_ge hp hp2).1 80 x h0 h1) (by omega)
section
variable {prog : Program} {w : World} {A : Around} {E : Value → Shared → Prop} {s : Shared} {a b : Addr} {h₀ : Heap} {L : Addr} {news : Led} {xs ys : List Value} {n1 n2 : Nat} {ns : List Int} {Q : Value → Shared → Prop}
theorem ne_same (N : News h₀ L s.heap news) (ha : (a, listOf xs.toArray n1) ∈ news) (hb : (b, listOf ys.toArray n2) ∈ news) (hi : IntsAre xs ns) (hj : IntsAre ys ns) (hu : A.units + 64 < cLine) (h : Q (.bool false) s) :
    wpAny (model prog w) A (compareOp .NotEq (.ref a) (.ref b)) Q E s := by
  refine ke_ne_ints (News.isList N ha) (News.isList N hb) hi hj hu ?_
  rw [decide_eq_true rfl]
  exact h
theorem news_d1 {h : Heap} {p : Addr × Obj} (N : News h₀ L h (p :: news)) : News h₀ L h news := fun q hq => N q (.tail _ hq)
theorem news_d2 {h : Heap} {p p2 : Addr × Obj} (N : News h₀ L h (p :: p2 :: news)) : News h₀ L h (p :: news) := fun q hq => N q (by
  rcases List.mem_cons.mp hq with rfl | hq
  · exact .head _
  · exact .tail _ (.tail _ hq))
end
section
variable {prog : Program} {w : World} {A : Around} {E : Value → Shared → Prop} {s : Shared} {env : Env} {h₀ : Heap} {target : Expr} {body : List Stmt} {Q : Flow → Shared → Prop}
theorem list_unit {led : Led} {l : Addr} {vs : List Value} {xs : List Int} {nn : Nat} {m₀ : Str → Option Value} (stored : List Str) (hh : A.handled = none) (hl : (l, listOf vs.toArray nn) ∈ led) (hi : IntsAre vs xs) (F : Fr h₀ env.locals s.heap m₀) (N : News h₀ env.locals s.heap led)
    (turn : ∀ (i : Nat) (x : Int) (t : Tok) (u : Str → Option Value) (h : Heap) (tk : Nat) (I : Addr) (o : Obj), xs[i]? = some x →
      Fr h₀ env.locals h (fun z => if stored.contains z then u z else m₀ z) → News h₀ env.locals h ((I, o) :: led) →
      TurnK prog w A E env h₀ target body Q s [(I, o)] (fun _ : Unit => led) (fun _ => []) stored m₀ (fun _ => True) (.int x t) h tk)
    (done : ∀ (u : Str → Option Value) h tk, Fr h₀ env.locals h (fun z => if stored.contains z then u z else m₀ z) → News h₀ env.locals h led → Q .next { s with heap := h, toks := tk }) :
    wpAny (model prog w) A (pyIter (.ref l)) (fun it s₂ => TurnsAt prog w A h₀ env target body Q E it s₂) E s :=
  list_inv (σ := Unit) (fun _ => led) (fun _ => []) stored (fun _ _ => True) () hh (fun _ => hl) hi (fun _ => rfl) F N (fun _ h => nomatch h) trivial
    (fun i _ x t u h tk I o hx _ _ F N => turn i x t u h tk I o hx F N) (fun _ u h tk _ F N => done u h tk F N)
end
noncomputable def PostL (h₀ : Heap) (L : Addr) (m : Str → Option Value) (led : Led) (s : Shared) (xs : List Int) (v : Value) (s' : Shared) : Prop :=
  ∃ (x : Addr) (ws : List Value) (n : Nat) (h' : Heap) (tk' : Nat), v = .ref x ∧ s' = { s with heap := h', toks := tk' } ∧ Fr h₀ L h' m ∧ News h₀ L h' ((x, listOf ws.toArray n) :: led) ∧ IntsAre ws xs
theorem via_list {M : Model} {A : Around} {E : Value → Shared → Prop} {s : Shared} {T : Sem Value} {h₀ : Heap} {L : Addr} {m : Str → Option Value} {led : Led} {Q : Value → Shared → Prop} (xs : List Int) (_F : Fr h₀ L s.heap m) (_N : News h₀ L s.heap led)
    (h : wpAny M A T (PostL h₀ L m led s xs) E s)
    (k : ∀ x ws n h' tk', Fr h₀ L h' m → News h₀ L h' ((x, listOf ws.toArray n) :: led) → IntsAre ws xs → Q (.ref x) { s with heap := h', toks := tk' }) : wpAny M A T Q E s :=
  wpAny_mono h (fun v s' ⟨x, ws, n, h', tk', e1, e2, F, N, I⟩ => by
    subst e1 e2
    exact k x ws n h' tk' F N I) fun _ _ e => e
end
section
local macro_rules | `(tactic| walk_at "callWith ref nil nil") => `(tactic| (refine callWith_K (by assumption) (by assumption) ?_; k_whole))
/-- a def whose first statement asks need_count of its first argument -/
inductive Refuser (w : World) (f : Addr) : Prop
  | mk (oc : Value) (od : Option Addr) (osl : Array (Option Value)) (name qual : Str) (q1 q2 q3 p1 p2 p3 p4 : Pos) (rest : List Stmt) (nm : List (Str × NameKind)) (doc pm cdv ct : Value) (an : Option Addr)
    (ho : (hd.heap_39 w.params).lookup f = some ⟨oc, od, .func (fnOf name qual ⟨[], [⟨Str.ofString "n", none, q1⟩, ⟨Str.ofString "w", none, q2⟩, ⟨Str.ofString "mul", none, q3⟩], none, [], [], none, []⟩ (.Expr (.Call (.Name (Str.ofString "need_count") p1) [.Name (Str.ofString "n") p2] [] p3) p4 :: rest) ⟨.function, nm, false, false, []⟩ .none .none doc pm an cdv ct), osl⟩)
    (hcd : codeIn (hd.heap_39 w.params) cdv qual = true) (hn : nm.lookup (Str.ofString "n") = some .local) (hw : nm.lookup (Str.ofString "w") = some .local) (hm : nm.lookup (Str.ofString "mul") = some .local) (hneed : nm.lookup (Str.ofString "need_count") = some .globalImplicit) (hcell : ∀ x ∈ nm, x.2 ≠ .cell) (hkeep : keepIn (hd.heap_39 w.params) (.ref f) = true) : Refuser w f
theorem f_refuses {w : World} {mean : ExcName → Option Value} {mg mb : Str → Option Value} {news : Led} {f : Addr} (hR : Refuser w f) {x : Int} {t : Tok} {env : Env} {A₀ : Around} {base h₀ : Heap} {L : Addr} {m : Str → Option Value} {s : Shared} {Q E : Value → Shared → Prop}
    (B : Below A₀ base [] h₀) (F : Fr h₀ L s.heap m) (X : (hd.heap_39 w.params).In h₀) (N : News h₀ L s.heap news) (T : Top hd.view_39 (looseW hd.view_39 []) mean mg mb h₀) (XB : (hd.heap_39 w.params).In base) (TB : Top hd.view_39 (looseW hd.view_39 []) mean mg mb base)
    (hf : env.frame = some L) (hke : env.scope.kind = .function)
    (hret : ∀ h' tk', Fr h₀ L h' m → News h₀ L h' news → Q (.bool true) { s with heap := h', toks := tk' }) :
    wpAny (model PySem.Challenge.rw_nn0011_01.row.prog w) (callerA.deeper env) (call (.ref 225) [.ref f, .int x t]) Q E s := by
  w_top off
  revert X
  k_fill
  intro X
  obtain ⟨oc, od, osl, name, qual, q1, q2, q3, p1, p2, p3, p4, rest, nm, doc, pm, cdv, ct, an, ho, hcd, hn, hw, hm, hneed, hcell, hkeep⟩ := hR
  refine wpAny_call ?_
  k_dflt (refine' Mine.code_defSX0 ?k1 ?k2 ?k3 ?k4 ?k5 ?kA ?kf ?ke ?k6 ?k7 ?k8 ?k9 ?kB ?_ ?c2 ?c3 ?c4 ?c5; (case kA => exact rfl); (case kf => exact hf); (case ke => exact hke); (case k2 => k_asm); (case k1 => k_asm); (case k3 => k_asm); (case k4 => k_asm); (case k5 => k_asm); (case k6 => k_is); (case k7 => k_is); (case k8 => k_room); (case k9 => exact BindsTo.of_eq rfl); (case kB => exact locs rfl); (case c2 => exact rfl); (case c3 => exact rfl); (case c4 => exact rfl); (case c5 => decide); k_whole; intro g' L' h' FG' F' N' B' X' T' D'; (try dsimp only); (try k_lift B'); (try k_fold))
  k_steps
  refine Stop.on ?_
  refine wpAny_call ?_
  k_dflt (refine' code_defS ?k1 ?k2 ?k3 ?k4 ?k5 ?XB ?TB ?D ?T0 ?kA ?k6 ?k7 ?k8 ?k9 ?kB ?_ ?cK ?c2 ?c3 ?c4 ?c5; (case kA => exact rfl); (case k2 => k_asm); (case k1 => k_asm); (case XB => assumption); (case TB => assumption); (case D => assumption); (case T0 => first | assumption | exact KtsTurn.refl); (case k3 => k_asm); (case k4 => k_asm); (case k5 => k_asm); (case k6 => exact ho); (case k7 => exact hcd); (case k8 => k_room); (case k9 => exact BindsTo.of_eq rfl); (case kB => exact List.forall_mem_cons.mpr ⟨hn, List.forall_mem_cons.mpr ⟨hw, List.forall_mem_cons.mpr ⟨hm, List.forall_mem_nil _⟩⟩⟩); (case cK => exact rfl); (case c2 => exact rfl); (case c3 => exact rfl); (case c4 => exact rfl); (case c5 => exact hcell); k_whole; intro g' L' h' FG' F' N' B' X' T' D'; (try dsimp only); (try k_lift B'); (try k_fold))
  k_steps
  k_dflt (refine' nameX_K ?F ?X ?T ?e ?_ ?a ?b; (case F => k_asm); (case X => k_asm); (case T => k_asm); (case a => rfl); (case b => exact hneed); (case e => k_is); k_whole)
  k_steps
  k_dflt (refine' nameX_L ?F ?v ?_ ?a ?b; (case F => k_asm); (case a => rfl); (case b => exact hn); (case v => rfl); k_whole)
  k_steps
  refine Stop.on ?_
  refine wpAny_call ?_
  k_dflt (refine' code_defS ?k1 ?k2 ?k3 ?k4 ?k5 ?XB ?TB ?D ?T0 ?kA ?k6 ?k7 ?k8 ?k9 ?kB ?_ ?cK ?c2 ?c3 ?c4 ?c5; (case kA => exact rfl); (case k2 => k_asm); (case k1 => k_asm); (case XB => assumption); (case TB => assumption); (case D => assumption); (case T0 => first | assumption | exact KtsTurn.refl); (case k3 => k_asm); (case k4 => k_asm); (case k5 => k_asm); (case k6 => k_is); (case k7 => k_is); (case k8 => k_room); (case k9 => exact BindsTo.of_eq rfl); (case kB => exact locs rfl); (case cK => exact rfl); (case c2 => exact rfl); (case c3 => exact rfl); (case c4 => exact rfl); (case c5 => decide); k_whole; intro g' L' h' FG' F' N' B' X' T' D'; (try dsimp only); (try k_lift B'); (try k_fold))
  k_steps
  exact hret _ _ (by k_asm) (by k_asm)
theorem r_all (w : World) : Refuser w 128 ∧ Refuser w 135 ∧ Refuser w 142 ∧ Refuser w 163 := by
  refine ⟨?_, ?_, ?_, ?_⟩ <;>
  ( refine' Refuser.mk (ho := ?h) (hcd := ?c) (hn := ?n) (hw := ?w') (hm := ?m) (hneed := ?d) (hcell := ?e) (hkeep := ?g) ..
    (case h => k_is)
    (case c => k_is)
    (case n => rfl)
    (case w' => rfl)
    (case m => rfl)
    (case d => rfl)
    (case e => decide)
    (case g => k_is))
end
end
section
local macro_rules | `(tactic| omega) => `(tactic| first | decide | with_reducible assumption | contradiction)
local macro_rules | `(tactic| walk_at "call type:range") => `(tactic| refine Stop.out ?_)
local macro_rules | `(tactic| walk_at "eval ListComp Name cons") => `(tactic| refine Stop.out ?_)
local macro_rules | `(tactic| walk_at "execs cons Return nil") => `(tactic| (exfalso; first | contradiction | omega))
local macro_rules | `(tactic| walk_at "eval IfExp") => `(tactic| refine Stop.out ?_)
local macro_rules | `(tactic| walk_at "CompEnd") => `(tactic| (rename Stop True => hm9; refine Stop.out ?_))
theorem sum_mod : ∀ (xs : List Int), 0 ≤ (xs.map fun k' => k'.fmod 9973).sum ∧ (xs.map fun k' => k'.fmod 9973).sum ≤ 9973 * xs.length
  | [] => ⟨Int.le_refl _, by decide⟩
  | x :: r => by
    have h := fmod_many (show (0 : Int) < 9973 by decide) x
    have ih := sum_mod r
    rw [List.map_cons, List.sum_cons, List.length_cons]
    omega
theorem gl_len (xs : List Int) : (List.map (fun (k' : Int) => if k' < 0 then -k' else k') (List.take 20 xs)).length ≤ 20 := by
  rw [List.length_map, List.length_take]
  omega
theorem gl_sum (xs : List Int) : 0 ≤ (List.map (fun (k' : Int) => k'.fmod 9973) (List.map (fun (k' : Int) => if k' < 0 then -k' else k') (List.take 20 xs))).sum ∧ (List.map (fun (k' : Int) => k'.fmod 9973) (List.map (fun (k' : Int) => if k' < 0 then -k' else k') (List.take 20 xs))).sum ≤ 9973 * 20 := by
  have h := sum_mod (List.map (fun (k' : Int) => if k' < 0 then -k' else k') (List.take 20 xs))
  have h2 := gl_len xs
  omega
theorem news_pick {h₀ h : Heap} {L : Addr} {p d g a b c : Addr × Obj} (N : News h₀ L h [p, d, g, a, b, c]) : News h₀ L h [p, g, c] := fun q hq => N q (by
  rcases List.mem_cons.mp hq with rfl | hq
  · exact .head _
  rcases List.mem_cons.mp hq with rfl | hq
  · exact .tail _ (.tail _ (.head _))
  rcases List.mem_cons.mp hq with rfl | hq
  · exact .tail _ (.tail _ (.tail _ (.tail _ (.tail _ (.head _)))))
  · cases hq)
theorem pick_ne {P D G A B C : Addr} (h : D < P ∧ G < P ∧ A < P ∧ B < P ∧ C < P) : G ≠ P ∧ C ≠ P := ⟨Nat.ne_of_lt h.2.1, Nat.ne_of_lt h.2.2.2.2⟩
theorem two_ne {P G C : Addr} {oG oC : Obj} (h : G ≠ P ∧ C ≠ P) : ∀ p ∈ [(G, oG), (C, oC)], p.1 ≠ P := by
  intro p hp
  rcases List.mem_cons.mp hp with rfl | hp
  · exact h.1
  rcases List.mem_cons.mp hp with rfl | hp
  · exact h.2
  · cases hp
structure NumR (a n : Int) : Prop where
  n1 : n ≤ 22
  n2 : 0 ≤ n + 1
  n3 : n + 1 < 2 ^ 30
  n4 : (0 - n).natAbs < 2 ^ 30 ∧ (0 - 2 : Int).natAbs < 2 ^ 30
  n5 : 0 < n + 3
  n6 : n + 3 ≤ 100
  n7 : 3 ≤ 3 + a
  n8 : 3 + a ≤ 9
theorem nums {a n : Int} (h1 : 0 ≤ a) (h2 : a < 7) (h3 : 0 ≤ n) (h4 : n < 23) : NumR a n := by constructor <;> omega
structure NumH (n : Int) : Prop where
  n1 : n ≤ 22
  n2 : n ≤ 11
  n3 : 0 ≤ n + 1
  n4 : n + 1 < 2 ^ 30
  n5 : 0 ≤ 2 * n
  n6 : 2 * n ≤ 22
  n7 : n < 2 ^ 63
  n8 : (n + 1).natAbs < 1073741824
  n9 : ¬ n + 1 = 0
theorem numh {n h : Int} (h4 : n < 23) (h0 : 0 ≤ h) (h1 : 2 * h ≤ n) : NumH h := by constructor <;> omega
structure NumX (x y : Int) : Prop where
  n1 : x ≤ 100
  n2 : x.natAbs < 2 ^ 64
  n3 : ¬ x = 0
  n4 : ¬ y = 0
  n5 : y.natAbs < 1073741824
theorem numx {x y : Int} (h1 : 2 ≤ x) (h2 : x ≤ 22) (h3 : 1 ≤ y) (h4 : y < 2 ^ 30) : NumX x y := by constructor <;> omega
theorem num3 {n k : Int} (h : n < 23) (h2 : k < n + 3) : k ≤ 24 := by omega
theorem tri_lt {n : Int} (h : 0 ≤ n) : n < ((triF (2 * n).toNat).length : Int) := by rw [triF_len]; omega
theorem four : ∀ i : Nat, i < 4 → i = 0 ∨ i = 1 ∨ i = 2 ∨ i = 3 := by decide
theorem law_whole : PySem.Challenge.rw_nn0011_01.Holds := by
  exact hd (by
    k_go0
    (all_goals try k_fold)
    have kMark := kstMark
    k_steps
    refine Stop.on ?_
    refine wpAny_call ?_
    k_enter
    k_steps
    rename IntsAre _ (List.map (fun k' => if k' < 0 then -k' else k') _) => hGI
    rename News _ _ _ [_, _, _, _, _, _] => N6
    rename _ ∧ _ ∧ _ ∧ _ ∧ _ => lt6
    rename List Int => xs
    have hGl := gl_len xs
    have hsd := gl_sum xs
    have N7 := news_pick N6
    have hGP := pick_ne lt6
    clear N6
    refine Stop.on ?_
    k_dflt (refine' f_law_draw _ _ _ _ _ _ _ _ _ _ _ _ _ _ _ _ _ ?cB ?cF ?cX ?cN ?cT ?cK ?cd ?cu ?cg ?cI ?cl ?c0 ?c1 ?c2 ?c3 ?cm ?cn ?cP ?_; (case cB => k_asm); (case cF => k_asm); (case cX => k_asm); (case cN => k_asm); (case cT => k_asm); (case cK => first | exact rfl | assumption); (case cd => ktr_room); (case cu => ktr_units); (case cg => exact .head _); (case cI => exact hGI); (case cl => exact hGl); (case c0 => omega); (case c1 => omega); (case c2 => omega); (case c3 => omega); (case cm => omega); (case cn => omega); (case cP => exact two_ne hGP))
    intro r1 tr1 i1 ti1 sd1 ts1 h_ tk_ a1 b1 a2 b2 a3 b3 F_ N_
    (try dsimp only)
    k_sweep
    (try k_fold)
    k_steps
    refine Stop.on ?_
    k_dflt (refine' f_law_draw _ _ _ _ _ _ _ _ _ _ _ _ _ _ _ _ _ ?cB ?cF ?cX ?cN ?cT ?cK ?cd ?cu ?cg ?cI ?cl ?c0 ?c1 ?c2 ?c3 ?cm ?cn ?cP ?_; (case cB => k_asm); (case cF => k_asm); (case cX => k_asm); (case cN => k_asm); (case cT => k_asm); (case cK => first | exact rfl | assumption); (case cd => ktr_room); (case cu => ktr_units); (case cg => exact .head _); (case cI => exact hGI); (case cl => exact hGl); (case c0 => omega); (case c1 => omega); (case c2 => omega); (case c3 => omega); (case cm => omega); (case cn => omega); (case cP => exact two_ne hGP))
    intro r2 tr2 i2 ti2 sd2 ts2 h_ tk_ a4 b4 a5 b5 a6 b6 F_ N_
    (try dsimp only)
    k_sweep
    (try k_fold)
    k_steps
    have nz := nums a1 b1 a4 b4
    have nz1 := nz.n1
    have nz2 := nz.n2
    have nz3 := nz.n3
    have nz4 := nz.n4
    have nz5 := nz.n5
    have nz6 := nz.n6
    have nz7 := nz.n7
    have nz8 := nz.n8
    clear nz
    refine Stop.on ?_
    k_dflt (refine' use_L ?cD ?cB ?cF ?cX ?cN ?cT ?cK ?cd ?cu ?_; (case cB => k_asm); (case cF => k_asm); (case cX => k_asm); (case cN => k_asm); (case cT => k_asm); (case cD => exact (f_law_primes a4 (by omega)) ); (case cK => first | exact rfl | assumption); (case cd => ktr_room); (case cu => ktr_units))
    intro pa pw pk h_ tk_ F_ N_ plt pI
    refine fold_m F_ ?_; clear F_; intro m_ F_
    (try dsimp only)
    k_sweep
    (try k_fold)
    k_steps
    have fs := facts a4 (by omega)
    rw [fs.e1] at pI
    refine Stop.on ?_
    k_dflt (refine' use_L ?cD ?cB ?cF ?cX ?cN ?cT ?cK ?cd ?cu ?_; (case cB => k_asm); (case cF => k_asm); (case cX => k_asm); (case cN => k_asm); (case cT => k_asm); (case cD => exact (f_sieve a4 (by omega)) ); (case cK => first | exact rfl | assumption); (case cd => ktr_room); (case cu => ktr_units))
    intro sa sw sk h_ tk_ F_ N_ slt sI
    refine fold_m F_ ?_; clear F_; intro m_ F_
    (try dsimp only)
    k_sweep
    (try k_fold)
    k_steps
    refine Stop.on ?_
    refine ne_same N_ (.head _) (.tail _ (.tail _ (.head _))) sI pI (by ktr_units) ?_
    have N8 := news_d2 (news_d1 (news_d1 N_))
    clear N_
    k_steps
    refine Stop.on ?_
    k_dflt (refine' use_L ?cD ?cB ?cF ?cX ?cN ?cT ?cK ?cd ?cu ?_; (case cB => k_asm); (case cF => k_asm); (case cX => k_asm); (case cN => k_asm); (case cT => k_asm); (case cD => exact (f_factorial (by omega) (by omega) 22 a4 (by omega) (by omega)) ); (case cK => first | exact rfl | assumption); (case cd => ktr_room); (case cu => ktr_units))
    intro fa fw fk h_ tk_ F_ N_ flt fI
    refine fold_m F_ ?_; clear F_; intro m_ F_
    (try dsimp only)
    k_sweep
    (try k_fold)
    k_steps
    refine Stop.on ?_
    k_dflt (refine Mine.rg_two (by k_asm) (by k_asm) ?_)
    intro R' h' tk' t1' u1' v1' F' N' l1
    (try k_lt l1)
    (try k_sweep)
    k_steps
    refine Stop.on ?_
    k_dflt (refine' use_I ?cD ?cB ?cF ?cX ?cN ?cT ?cK ?cd ?cu ?_; (case cB => k_asm); (case cF => k_asm); (case cX => k_asm); (case cN => k_asm); (case cT => k_asm); (case cD => exact (f_law_product_range (.head _) (small_sv (by omega) (by omega) (by omega) (by omega) (by omega) (by omega)) (fun c hc => (fs.r1 c hc).1) (by rw [fs.e2]; exact Int.lt_trans fs.b1 (by decide)) (fun c hc => (fs.r1 c hc).2)) ); (case cK => first | exact rfl | assumption); (case cd => ktr_room); (case cu => ktr_units))
    intro tq h_ tk_ F_ N_
    refine fold_m F_ ?_; clear F_; intro m_ F_
    (try dsimp only)
    k_sweep
    (try k_fold)
    k_steps
    rw [fs.e2]
    refine Stop.on ?_
    k_dflt (refine' use_L ?cD ?cB ?cF ?cX ?cN ?cT ?cK ?cd ?cu ?_; (case cB => k_asm); (case cF => k_asm); (case cX => k_asm); (case cN => k_asm); (case cT => k_asm); (case cD => exact (f_law_row (nn1 fs.p1) (by omega) (by omega) (row_len (by omega) (by omega) (nn1 fs.p1) fs.b1)) ); (case cK => first | exact rfl | assumption); (case cd => ktr_room); (case cu => ktr_units))
    intro ga gw gk h_ tk_ F_ N_ glt gI
    refine fold_m F_ ?_; clear F_; intro m_ F_
    (try dsimp only)
    k_sweep
    (try k_fold)
    k_steps
    refine Stop.on ?_
    refine ne_same N_ (.tail _ (.tail _ (.head _))) (.head _) fI gI (by ktr_units) ?_
    have N9 := news_d1 (news_d1 (news_d1 N_))
    clear N_
    k_steps
    refine Stop.on ?_
    k_dflt (refine' use_L ?cD ?cB ?cF ?cX ?cN ?cT ?cK ?cd ?cu ?_; (case cB => k_asm); (case cF => k_asm); (case cX => k_asm); (case cN => k_asm); (case cT => k_asm); (case cD => exact (f_double_factorial (by omega) (by omega) a4 (by omega)) ); (case cK => first | exact rfl | assumption); (case cd => ktr_room); (case cu => ktr_units))
    intro ha hw hhk h_ tk_ F_ N_ hlt hI
    refine fold_m F_ ?_; clear F_; intro m_ F_
    (try dsimp only)
    k_sweep
    (try k_fold)
    k_steps
    refine Stop.on ?_
    k_dflt (refine Mine.rg_three (by k_asm) (by k_asm) (by decide) (by omega) ?_)
    intro R' h' tk' t1' u1' v1' F' N' l1
    (try k_lt l1)
    (try k_sweep)
    k_steps
    refine Stop.on ?_
    k_dflt (refine' use_I ?cD ?cB ?cF ?cX ?cN ?cT ?cK ?cd ?cu ?_; (case cB => k_asm); (case cF => k_asm); (case cX => k_asm); (case cN => k_asm); (case cT => k_asm); (case cD => exact (f_law_product_range (.head _) (small_two a4 (by omega)) (fun c hc => (fs.r2 c hc).1) (Int.lt_trans fs.b2 (by decide)) (fun c hc => (fs.r2 c hc).2)) ); (case cK => first | exact rfl | assumption); (case cd => ktr_room); (case cu => ktr_units))
    intro tq2 h_ tk_ F_ N_
    refine fold_m F_ ?_; clear F_; intro m_ F_
    (try dsimp only)
    k_sweep
    (try k_fold)
    k_steps
    rw [show prd (rgz r2 0 (0 - 2)) = dfac r2 from rfl]
    refine Stop.on ?_
    k_dflt (refine' use_L ?cD ?cB ?cF ?cX ?cN ?cT ?cK ?cd ?cu ?_; (case cB => k_asm); (case cF => k_asm); (case cX => k_asm); (case cN => k_asm); (case cT => k_asm); (case cD => exact (f_law_row (nn1 fs.p2) (by omega) (by omega) (row_len (by omega) (by omega) (nn1 fs.p2) fs.b2)) ); (case cK => first | exact rfl | assumption); (case cd => ktr_room); (case cu => ktr_units))
    intro ia iw ik h_ tk_ F_ N_ ilt iI
    refine fold_m F_ ?_; clear F_; intro m_ F_
    (try dsimp only)
    k_sweep
    (try k_fold)
    k_steps
    refine Stop.on ?_
    refine ne_same N_ (.tail _ (.tail _ (.head _))) (.head _) hI iI (by ktr_units) ?_
    have N10 := news_d1 (news_d1 (news_d1 N_))
    clear N_
    k_steps
    refine Stop.on ?_
    k_dflt (refine' use_L ?cD ?cB ?cF ?cX ?cN ?cT ?cK ?cd ?cu ?_; (case cB => k_asm); (case cF => k_asm); (case cX => k_asm); (case cN => k_asm); (case cT => k_asm); (case cD => exact (f_primorial (by omega) (by omega) a4 (by omega)) ); (case cK => first | exact rfl | assumption); (case cd => ktr_room); (case cu => ktr_units))
    intro ja jw jk h_ tk_ F_ N_ jlt jI
    refine fold_m F_ ?_; clear F_; intro m_ F_
    (try dsimp only)
    k_sweep
    (try k_fold)
    k_steps
    refine Stop.on ?_
    k_dflt (refine' use_I ?cD ?cB ?cF ?cX ?cN ?cT ?cK ?cd ?cu ?_; (case cB => k_asm); (case cF => k_asm); (case cX => k_asm); (case cN => k_asm); (case cT => k_asm); (case cD => exact (f_law_product_list (.tail _ (.head _)) pI (fun c hc => (fs.r3 c hc).1) (Int.lt_trans fs.b3 (by decide)) (fun c hc => (fs.r3 c hc).2)) ); (case cK => first | exact rfl | assumption); (case cd => ktr_room); (case cu => ktr_units))
    intro tq3 h_ tk_ F_ N_
    refine fold_m F_ ?_; clear F_; intro m_ F_
    (try dsimp only)
    k_sweep
    (try k_fold)
    k_steps
    rw [show prd (pr r2) = primo r2 from rfl]
    refine Stop.on ?_
    k_dflt (refine' use_L ?cD ?cB ?cF ?cX ?cN ?cT ?cK ?cd ?cu ?_; (case cB => k_asm); (case cF => k_asm); (case cX => k_asm); (case cN => k_asm); (case cT => k_asm); (case cD => exact (f_law_row (nn1 fs.p3) (by omega) (by omega) (row_len (by omega) (by omega) (nn1 fs.p3) fs.b3)) ); (case cK => first | exact rfl | assumption); (case cd => ktr_room); (case cu => ktr_units))
    intro ka kw kk h_ tk_ F_ N_ klt kI
    refine fold_m F_ ?_; clear F_; intro m_ F_
    (try dsimp only)
    k_sweep
    (try k_fold)
    k_steps
    refine Stop.on ?_
    refine ne_same N_ (.tail _ (.head _)) (.head _) jI kI (by ktr_units) ?_
    have N11 := news_d1 (news_d1 N_)
    clear N_
    k_steps
    have hhalf := half_of (show 0 ≤ r2 from a4)
    have hh0 := hhalf.1
    have nh := numh b4 hh0 hhalf.2.1
    have nh1 := nh.n1
    have nh2 := nh.n2
    have nh3 := nh.n3
    have nh4 := nh.n4
    have nh5 := nh.n5
    have nh6 := nh.n6
    have nh7 := nh.n7
    have nh8 := nh.n8
    have nh9 := nh.n9
    have nt := tri_lt hh0
    clear nh
    have fsH := facts (n := r2.fdiv 2) hhalf.1 (by omega)
    refine Stop.on ?_
    k_dflt (refine Mine.rg_two (by k_asm) (by k_asm) ?_)
    intro R' h' tk' t1' u1' v1' F' N' l1
    (try k_lt l1)
    (try k_sweep)
    k_steps
    refine Stop.on ?_
    k_dflt (refine' use_I ?cD ?cB ?cF ?cX ?cN ?cT ?cK ?cd ?cu ?_; (case cB => k_asm); (case cF => k_asm); (case cX => k_asm); (case cN => k_asm); (case cT => k_asm); (case cD => exact (int_eq (f_law_product_range (.head _) (small_sv (by omega) (by omega) (by omega) (by omega) (by omega) (by omega)) (fun c hc => (fs.r1 c hc).1) (by rw [fs.e2]; exact Int.lt_trans fs.b1 (by decide)) (fun c hc => (fs.r1 c hc).2)) fs.e2) ); (case cK => first | exact rfl | assumption); (case cd => ktr_room); (case cu => ktr_units))
    intro tq4 h_ tk_ F_ N_
    refine fold_m F_ ?_; clear F_; intro m_ F_
    (try dsimp only)
    k_sweep
    (try k_fold)
    k_steps
    refine Stop.on ?_
    k_dflt (refine Mine.rg_two (by k_asm) (by k_asm) ?_)
    intro R' h' tk' t1' u1' v1' F' N' l1
    (try k_lt l1)
    (try k_sweep)
    k_steps
    refine Stop.on ?_
    k_dflt (refine' use_I ?cD ?cB ?cF ?cX ?cN ?cT ?cK ?cd ?cu ?_; (case cB => k_asm); (case cF => k_asm); (case cX => k_asm); (case cN => k_asm); (case cT => k_asm); (case cD => exact (int_eq (f_law_product_range (.head _) (small_sv (by omega) (by omega) (by omega) (by omega) (by omega) (by omega)) (fun c hc => (fsH.r1 c hc).1) (by rw [fsH.e2]; exact Int.lt_trans fsH.b1 (by decide)) (fun c hc => (fsH.r1 c hc).2)) fsH.e2) ); (case cK => first | exact rfl | assumption); (case cd => ktr_room); (case cu => ktr_units))
    intro tq5 h_ tk_ F_ N_
    refine fold_m F_ ?_; clear F_; intro m_ F_
    (try dsimp only)
    k_sweep
    (try k_fold)
    have hf1 := fs.p1
    have hf2 := fs.b1
    have hh1 := fsH.p1
    have hh2 := fact_26 hhalf.1 (by omega)
    have hh3 := pow2_ne hh1
    k_steps
    · exact absurd ‹fact _ ^ _ = 0› hh3
    rename Fr _ _ _ _ => F12
    rename News _ _ _ _ => N12
    rw [show (fact r2).fdiv (fact (r2.fdiv 2) ^ Int.toNat 2) = swv r2 from fs.sw] at F12
    replace N12 := news_d1 (news_d1 N12)
    refine Stop.on ?_
    k_dflt (refine' use_L ?cD ?cB ?cF ?cX ?cN ?cT ?cK ?cd ?cu ?_; (case cB => k_asm); (case cF => k_asm); (case cX => k_asm); (case cN => k_asm); (case cT => k_asm); (case cD => exact (f_swing (by omega) (by omega) a4 (by omega)) ); (case cK => first | exact rfl | assumption); (case cd => ktr_room); (case cu => ktr_units))
    intro ma mw mk h_ tk_ F_ N_ mlt mI
    refine fold_m F_ ?_; clear F_; intro m_ F_
    (try dsimp only)
    k_sweep
    (try k_fold)
    k_steps
    refine Stop.on ?_
    k_dflt (refine' use_L ?cD ?cB ?cF ?cX ?cN ?cT ?cK ?cd ?cu ?_; (case cB => k_asm); (case cF => k_asm); (case cX => k_asm); (case cN => k_asm); (case cT => k_asm); (case cD => exact (f_law_row (nn1 fs.p4) (by omega) (by omega) (row_len (by omega) (by omega) (nn1 fs.p4) (Int.lt_trans fs.b4 (by decide)))) ); (case cK => first | exact rfl | assumption); (case cd => ktr_room); (case cu => ktr_units))
    intro na nw nk h_ tk_ F_ N_ nlt nI
    refine fold_m F_ ?_; clear F_; intro m_ F_
    (try dsimp only)
    k_sweep
    (try k_fold)
    k_steps
    refine Stop.on ?_
    refine ne_same N_ (.tail _ (.head _)) (.head _) mI nI (by ktr_units) ?_
    have N13 := news_d1 (news_d1 N_)
    clear N_
    k_steps
    refine Stop.on ?_
    rename Fr _ _ _ _ => F14
    refine list_unit [Str.ofString "prime", Str.ofString "many"] rfl (.head _) pI F14 N13 ?_ ?_
    · intro i x t u h tk I o hx F15 N15 K kr kb fin kc
      clear N13 F14
      refine fold_m F15 ?_; clear F15; intro m2 F15
      (try k_fold)
      obtain ⟨q1, q2, q3, q4, q5, q6, q7, q8⟩ := fs.pw x (List.mem_of_getElem? hx)
      have nx := numx q3 q4 q5 q6
      have nx1 := nx.n1
      have nx2 := nx.n2
      have nx3 := nx.n3
      have nx4 := nx.n4
      have nx5 := nx.n5
      have nx6 := Int.le_trans q2 (show (10 : Int) ≤ 1000000 by decide)
      clear nx
      k_steps
      refine Stop.on ?_
      k_dflt (refine' use_I ?cD ?cB ?cF ?cX ?cN ?cT ?cK ?cd ?cu ?_; (case cB => k_asm); (case cF => k_asm); (case cX => k_asm); (case cN => k_asm); (case cT => k_asm); (case cD => exact (f_swing_exponent a4 q3 (by omega)) ); (case cK => first | exact rfl | assumption); (case cd => ktr_room); (case cu => ktr_units))
      intro tq6 h_ tk_ F_ N_
      refine fold_m F_ ?_; clear F_; intro m_ F_
      (try dsimp only)
      k_sweep
      (try k_fold)
      k_steps
      rename Fr _ _ _ _ => F16
      rename News _ _ _ _ => N16
      exact fin () _ _ _ _ F16 N16 (by kst_in) (by kst_in) (fun _ h => nomatch h) (by dsimp only [m_, m2]; ksw_same) trivial
    · intro u h tk F15 N15
      clear N13 F14
      replace F15 : Fr _ (Array.size _) h _ := F15
      replace N15 : News _ (Array.size _) h _ := news_d1 N15
      k_steps
      refine Stop.on ?_
      k_dflt (refine' f_law_draw _ _ _ _ _ _ _ _ _ _ _ _ _ _ _ _ _ ?cB ?cF ?cX ?cN ?cT ?cK ?cd ?cu ?cg ?cI ?cl ?c0 ?c1 ?c2 ?c3 ?cm ?cn ?cP ?_; (case cB => k_asm); (case cF => k_asm); (case cX => k_asm); (case cN => k_asm); (case cT => k_asm); (case cK => first | exact rfl | assumption); (case cd => ktr_room); (case cu => ktr_units); (case cg => exact .head _); (case cI => exact hGI); (case cl => exact hGl); (case c0 => omega); (case c1 => omega); (case c2 => omega); (case c3 => omega); (case cm => omega); (case cn => omega); (case cP => exact two_ne hGP))
      intro r3 tr3 i3 ti3 sd3 ts3 h_ tk_ a7 b7 a8 b8 a9 b9 F_ N_
      (try dsimp only)
      k_sweep
      (try k_fold)
      k_steps
      have n30 := num3 b4 b7
      refine Stop.on ?_
      k_dflt (refine' use_L ?cD ?cB ?cF ?cX ?cN ?cT ?cK ?cd ?cu ?_; (case cB => k_asm); (case cF => k_asm); (case cX => k_asm); (case cN => k_asm); (case cT => k_asm); (case cD => exact (f_law_triangle a4 (by omega)) ); (case cK => first | exact rfl | assumption); (case cd => ktr_room); (case cu => ktr_units))
      intro ta tw tk2 h_ tk_ F_ N_ tlt tI
      refine fold_m F_ ?_; clear F_; intro m_ F_
      (try dsimp only)
      k_sweep
      (try k_fold)
      have hI2 := triF_len r2.toNat
      k_steps
      refine Stop.on ?_
      k_dflt (refine' use_L ?cD ?cB ?cF ?cX ?cN ?cT ?cK ?cd ?cu ?_; (case cB => k_asm); (case cF => k_asm); (case cX => k_asm); (case cN => k_asm); (case cT => k_asm); (case cD => exact (f_binomial (by omega) (by omega) a4 (by omega) a7 (by omega)) ); (case cK => first | exact rfl | assumption); (case cd => ktr_room); (case cu => ktr_units))
      intro ba bw bk h_ tk_ F_ N_ blt bI
      refine fold_m F_ ?_; clear F_; intro m_ F_
      (try dsimp only)
      k_sweep
      (try k_fold)
      k_steps
      refine Stop.on ?_
      k_dflt (refine via_list (dg (2 ^ (3 + r1).toNat) (bin r2 r3)) (by k_asm) (by k_asm) ?_ ?_)
      · refine IfExp_ ?_
        k_steps
        · have hkn : r3 ≤ r2 := by omega
          obtain ⟨z1, z2, z3⟩ := facts_k a4 (by omega) a7 hkn
          rw [z1] at z2 z3
          rw [z1]
          refine Stop.on ?_
          k_dflt (refine' use_L ?cD ?cB ?cF ?cX ?cN ?cT ?cK ?cd ?cu ?_; (case cB => k_asm); (case cF => k_asm); (case cX => k_asm); (case cN => k_asm); (case cT => k_asm); (case cD => exact (f_law_row z2 (by omega) (by omega) (row_len (by omega) (by omega) z2 (Int.lt_trans z3 (by decide)))) ); (case cK => first | exact rfl | assumption); (case cd => ktr_room); (case cu => ktr_units))
          intro ca cw ck h_ tk_ F_ N_ clt cI
          refine fold_m F_ ?_; clear F_; intro m_ F_
          (try dsimp only)
          k_sweep
          (try k_fold)
          k_steps
          exact ⟨_, _, _, _, _, rfl, rfl, by k_asm, by k_asm, cI⟩
        · have hz : bin r2 r3 = 0 := by rw [bin, if_neg (by omega)]
          rw [hz]
          exact ⟨_, [], _, _, _, rfl, rfl, by k_asm, by k_asm, .nil⟩
      intro ca cw ck h_ tk_ F_ N_ cI
      k_steps
      refine Stop.on ?_
      refine ne_same N_ (.tail _ (.head _)) (.head _) bI cI (by ktr_units) ?_
      have N17 := news_d1 (news_d1 (news_d1 (news_d1 N_)))
      clear N_
      k_steps
      refine Stop.on ?_
      k_dflt (refine' use_L ?cD ?cB ?cF ?cX ?cN ?cT ?cK ?cd ?cu ?_; (case cB => k_asm); (case cF => k_asm); (case cX => k_asm); (case cN => k_asm); (case cT => k_asm); (case cD => exact (f_law_triangle (by omega) (by omega)) ); (case cK => first | exact rfl | assumption); (case cd => ktr_room); (case cu => ktr_units))
      intro da dw dk h_ tk_ F_ N_ dlt dI
      refine fold_m F_ ?_; clear F_; intro m_ F_
      (try dsimp only)
      k_sweep
      (try k_fold)
      have dlen := triF_len (2 * r2.fdiv 2).toNat
      k_steps
      refine Stop.on ?_
      k_dflt (refine' use_L ?cD ?cB ?cF ?cX ?cN ?cT ?cK ?cd ?cu ?_; (case cB => k_asm); (case cF => k_asm); (case cX => k_asm); (case cN => k_asm); (case cT => k_asm); (case cD => exact (f_catalan (by omega) (by omega) hhalf.1 (by omega)) ); (case cK => first | exact rfl | assumption); (case cd => ktr_room); (case cu => ktr_units))
      intro ea ew ek9 h_ tk_ F_ N_ elt eI
      refine fold_m F_ ?_; clear F_; intro m_ F_
      (try dsimp only)
      k_sweep
      (try k_fold)
      k_steps
      obtain ⟨y1, y2, y3, y4⟩ := facts_c hhalf.1 (by omega)
      rw [y1]
      refine Stop.on ?_
      k_dflt (refine' use_L ?cD ?cB ?cF ?cX ?cN ?cT ?cK ?cd ?cu ?_; (case cB => k_asm); (case cF => k_asm); (case cX => k_asm); (case cN => k_asm); (case cT => k_asm); (case cD => exact (f_law_row y2 (by omega) (by omega) (row_len (by omega) (by omega) y2 (Int.lt_trans y3 (by decide)))) ); (case cK => first | exact rfl | assumption); (case cd => ktr_room); (case cu => ktr_units))
      intro ga2 gw2 gk2 h_ tk_ F_ N_ glt2 gI2
      refine fold_m F_ ?_; clear F_; intro m_ F_
      (try dsimp only)
      k_sweep
      (try k_fold)
      k_steps
      refine Stop.on ?_
      refine ne_same N_ (.tail _ (.head _)) (.head _) eI gI2 (by ktr_units) ?_
      have N18 := news_d1 (news_d1 (news_d1 N_))
      clear N_
      k_steps
      refine Stop.on ?_
      k_dflt (refine ListComp_tup (F₀ := by k_asm) (by with_unfolding_all rfl) (by decide) (by rfl) (by decide) (by rfl) ?_)
      k_steps
      rename News _ _ _ (_ :: _) => N19
      refine ⟨_, _, _, rfl, rfl, by k_asm, N19, ⟨_, .head _, rfl, _, rfl⟩, Nat.le_of_ble_eq_true rfl, ?_⟩
      rintro s₂ ⟨gh, rfl⟩
      refine comp_invT (fun i ys nw => ys = [] ∧ nw = _) 4 ?_ ?_ _ 0 [] _ rfl ⟨rfl, rfl⟩
      · rintro i ys nw hi ⟨rfl, rfl⟩ v I oI C oC D m₂ h tk E' hv hC hx F20 N20 off ne
        clear N19
        obtain ⟨f, rfl, hR⟩ : ∃ f, v = .ref f ∧ ∀ w, Refuser w f := by
          have hi4 := four i hi
          rcases hi4 with rfl | rfl | rfl | rfl
          · exact ⟨128, by simpa using hv.symm, fun w => (r_all w).1⟩
          · exact ⟨135, by simpa using hv.symm, fun w => (r_all w).2.1⟩
          · exact ⟨142, by simpa using hv.symm, fun w => (r_all w).2.2.1⟩
          · exact ⟨163, by simpa using hv.symm, fun w => (r_all w).2.2.2⟩
        have hmk2 : Stop True := ⟨trivial⟩
        k_steps
        refine Stop.on ?_
        k_dflt (refine f_refuses (hR _) (by k_asm) (by k_asm) (by k_asm) (by k_asm) (by k_asm) (by assumption) (by assumption) rfl rfl ?_)
        intro h_ tk_ F_ N_
        (try dsimp only)
        k_sweep
        k_steps
        refine Stop.on ?_
        rename News _ _ _ _ => N21
        refine LCg.CompEnd.intro (by k_asm) N21 _ (by kst_in) off ⟨_, .head _, rfl, _, rfl⟩ ⟨rfl, rfl⟩
      · rintro ys nw ⟨rfl, rfl⟩
        clear N19
        k_steps
        refine Stop.on ?_
        rename News _ _ _ _ => N22
        refine ke_eq_ints (News.isList N22 (.tail _ (.head _))) (News.isList N22 (.head _)) .nil .nil (by ktr_units) ?_
        rw [decide_eq_true rfl]
        k_steps)
end
end Mine
end
theorem PySem.Challenge.cw_nn0011_01_holds : PySem.Challenge.rw_nn0011_01.Holds := by
  exact Mine.law_whole
