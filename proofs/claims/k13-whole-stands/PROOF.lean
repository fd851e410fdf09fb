import PyProof.Rows.All
import Wide.All
import OpenK.AllK
import Wide.FinOn
import HandS.ForMost
import HandS.Walk
import HandS.Zip
import HandS.SortInts
import HandS.TupAny
import HandS.TupMul
import HandS.Style
import KE.GoesZip
import KE.GoesEnum
import KE.GoesMore
import HandS.Lambda
import HandS.IsInst
import HandS.AnyAll
import HandS.ForExc
import HandS.Star
import HandS.Small
import HandS.Iter
import HandS.EndTab
import HandS.EndOwn
import KE.KNest
import PySem.Challenge.RW_parksums_k13_whole_stands
set_option Elab.async false
set_option linter.all false
set_option maxRecDepth 100000
set_option maxHeartbeats 4000000
namespace K13
/-- one car put at a place -/
def put (m : Int → Option Nat) (p : Int) (c : Nat) : Int → Option Nat := fun q => if q = p then some c else m q
theorem put_same {m : Int → Option Nat} {p : Int} {c : Nat} : put m p c p = some c := if_pos rfl
theorem put_ne {m : Int → Option Nat} {p q : Int} {c : Nat} (h : q ≠ p) : put m p c q = m q := if_neg h
/-- the number at a place -/
def at0 (l : List Int) (i : Nat) : Int := l.getD i 0
theorem at0_set_same {l : List Int} {i : Nat} {x : Int} (h : i < l.length) : at0 (l.set i x) i = x := by
  unfold at0
  rw [List.getD_eq_getElem?_getD, List.getElem?_set_self h]
  rfl
theorem at0_set_ne {l : List Int} {i j : Nat} {x : Int} (h : i ≠ j) : at0 (l.set i x) j = at0 l j := by
  unfold at0
  rw [List.getD_eq_getElem?_getD, List.getD_eq_getElem?_getD, List.getElem?_set_ne h]
theorem at0_get {l : List Int} {i : Nat} (h : i < l.length) : l[i]? = some (at0 l i) := by
  unfold at0
  rw [List.getD_eq_getElem?_getD, List.getElem?_eq_getElem h]
  rfl
/-- the car c comes to the place p; f: an upper bound of the steps -/
def go (stay : Int → Int → Bool) (n : Int) : Nat → (Int → Option Nat) → List Int → Nat → Int → (Int → Option Nat) × List Int
  | 0, m, g, c, p => (put m p c, g)
  | f + 1, m, g, c, p => match m p with
    | none => (put m p c, g)
    | some o =>
      if stay (at0 g o) (at0 g c) = true then go stay n f m (g.set c (at0 g c + 1)) c ((p + 1) % n)
      else go stay n f (put m p c) (g.set o (at0 g o + 1)) o ((p + 1) % n)
/-- a free place within f steps -/
def Fr (n : Int) : Nat → (Int → Option Nat) → Int → Prop
  | 0, m, p => m p = none
  | f + 1, m, p => m p = none ∨ Fr n f m ((p + 1) % n)
theorem Fr.same {n : Int} {m m' : Int → Option Nat} (h : ∀ q, m q = none ↔ m' q = none) : ∀ {f : Nat} {p : Int}, Fr n f m p → Fr n f m' p
  | 0, p, x => (h p).mp x
  | f + 1, p, .inl x => .inl ((h p).mp x)
  | f + 1, p, .inr x => .inr (Fr.same h x)
theorem put_keys {m : Int → Option Nat} {p : Int} {c o : Nat} (h : m p = some o) (q : Int) : m q = none ↔ put m p c q = none := by
  by_cases e : q = p
  · subst e
    rw [put_same, h]
    simp
  · rw [put_ne e]
/-- what holds at each turn holds at the end -/
theorem go_ind {stay : Int → Int → Bool} {n : Int} {I : (Int → Option Nat) → List Int → Nat → Int → Prop}
    (h1 : ∀ m g c p o, I m g c p → m p = some o → stay (at0 g o) (at0 g c) = true → I m (g.set c (at0 g c + 1)) c ((p + 1) % n))
    (h2 : ∀ m g c p o, I m g c p → m p = some o → stay (at0 g o) (at0 g c) = false → I (put m p c) (g.set o (at0 g o + 1)) o ((p + 1) % n)) :
    ∀ (f : Nat) m g c p, I m g c p → Fr n f m p → ∃ m' g' c' p', I m' g' c' p' ∧ m' p' = none ∧ go stay n f m g c p = (put m' p' c', g')
  | 0, m, g, c, p, hi, hf => ⟨m, g, c, p, hi, hf, rfl⟩
  | f + 1, m, g, c, p, hi, hf => by
    cases hm : m p with
    | none => exact ⟨m, g, c, p, hi, hm, by unfold go; rw [hm]⟩
    | some o =>
      have hf' : Fr n f m ((p + 1) % n) := by
        rcases hf with z | z
        · rw [hm] at z; cases z
        · exact z
      cases hs : stay (at0 g o) (at0 g c) with
      | true =>
        obtain ⟨m', g', c', p', a, b, e⟩ := go_ind h1 h2 f m _ c _ (h1 m g c p o hi hm hs) hf'
        refine ⟨m', g', c', p', a, b, ?_⟩
        rw [← e]
        show (match m p with | none => _ | some o => _) = _
        rw [hm]
        show (if stay (at0 g o) (at0 g c) = true then _ else _) = _
        rw [if_pos hs]
      | false =>
        obtain ⟨m', g', c', p', a, b, e⟩ := go_ind h1 h2 f (put m p c) _ o _ (h2 m g c p o hi hm hs) (hf'.same (put_keys hm))
        refine ⟨m', g', c', p', a, b, ?_⟩
        rw [← e]
        show (match m p with | none => _ | some o => _) = _
        rw [hm]
        show (if stay (at0 g o) (at0 g c) = true then _ else _) = _
        rw [if_neg (by rw [hs]; decide)]
theorem go_none {stay : Int → Int → Bool} {n : Int} {f : Nat} {m : Int → Option Nat} {g : List Int} {c : Nat} {p : Int} (h : m p = none) : go stay n f m g c p = (put m p c, g) := by
  cases f with
  | zero => rfl
  | succ f => unfold go; rw [h]
theorem go_stay {stay : Int → Int → Bool} {n : Int} {f : Nat} {m : Int → Option Nat} {g : List Int} {c o : Nat} {p : Int} (h : m p = some o) (hs : stay (at0 g o) (at0 g c) = true) :
    go stay n (f + 1) m g c p = go stay n f m (g.set c (at0 g c + 1)) c ((p + 1) % n) := by
  show (match m p with | none => _ | some o => _) = _
  rw [h]
  show (if stay (at0 g o) (at0 g c) = true then _ else _) = _
  rw [if_pos hs]
theorem go_swap {stay : Int → Int → Bool} {n : Int} {f : Nat} {m : Int → Option Nat} {g : List Int} {c o : Nat} {p : Int} (h : m p = some o) (hs : stay (at0 g o) (at0 g c) = false) :
    go stay n (f + 1) m g c p = go stay n f (put m p c) (g.set o (at0 g o + 1)) o ((p + 1) % n) := by
  show (match m p with | none => _ | some o => _) = _
  rw [h]
  show (if stay (at0 g o) (at0 g c) = true then _ else _) = _
  rw [if_neg (by rw [hs]; decide)]
/-- the state behind k cars -/
def stt (stay : Int → Int → Bool) (n : Int) (ws : List Int) : Nat → (Int → Option Nat) × List Int
  | 0 => (fun _ => none, List.replicate ws.length 0)
  | k + 1 => go stay n n.toNat (stt stay n ws k).1 (stt stay n ws k).2 k (at0 ws k)
/-- the next free place -/
def nxt (n : Int) : Nat → List Int → Int → Int
  | 0, _, p => p
  | f + 1, l, p => if p ∈ l then nxt n f l ((p + 1) % n) else p
/-- the places that the first k cars take -/
def spk (n : Int) (ws : List Int) : Nat → List Int
  | 0 => []
  | k + 1 => spk n ws k ++ [nxt n n.toNat (spk n ws k) (at0 ws k)]
theorem spk_len (n : Int) (ws : List Int) : ∀ k, (spk n ws k).length = k
  | 0 => rfl
  | k + 1 => by
    show (spk n ws k ++ [_]).length = k + 1
    rw [List.length_append, spk_len n ws k]
    rfl
theorem go_keys {stay : Int → Int → Bool} {n : Int} {l : List Int} : ∀ (f : Nat) (m : Int → Option Nat) (g : List Int) (c : Nat) (p : Int), (∀ q, m q ≠ none ↔ q ∈ l) → Fr n f m p →
    ∀ q, (go stay n f m g c p).1 q ≠ none ↔ q ∈ l ∨ q = nxt n f l p
  | 0, m, g, c, p, h, hf, q => by
    show put m p c q ≠ none ↔ q ∈ l ∨ q = p
    by_cases e : q = p
    · subst e
      rw [put_same]
      simp
    · rw [put_ne e, h q]
      simp [e]
  | f + 1, m, g, c, p, h, hf, q => by
    cases hm : m p with
    | none =>
      have hp : ¬ p ∈ l := fun z => (h p).mpr z hm
      rw [go_none hm]
      show put m p c q ≠ none ↔ q ∈ l ∨ q = (if p ∈ l then _ else p)
      rw [if_neg hp]
      by_cases e : q = p
      · subst e
        rw [put_same]
        simp
      · rw [put_ne e, h q]
        simp [e]
    | some o =>
      have hp : p ∈ l := (h p).mp (by rw [hm]; simp)
      have hf' : Fr n f m ((p + 1) % n) := by
        rcases hf with z | z
        · rw [hm] at z; cases z
        · exact z
      have e : nxt n (f + 1) l p = nxt n f l ((p + 1) % n) := if_pos hp
      rw [e]
      cases hs : stay (at0 g o) (at0 g c) with
      | true =>
        rw [go_stay hm hs]
        exact go_keys f m _ c _ h hf' q
      | false =>
        rw [go_swap hm hs]
        refine go_keys f (put m p c) _ o _ (fun q => ?_) (hf'.same (put_keys hm)) q
        rw [← h q]
        exact not_congr (put_keys hm q).symm
/-- the first free place is free, near -/
theorem nxt_free {n : Int} {l : List Int} {m : Int → Option Nat} : ∀ (f : Nat) (p : Int), (∀ q, m q ≠ none ↔ q ∈ l) → Fr n f m p → ¬ nxt n f l p ∈ l
  | 0, p, h, hf => fun z => (h p).mpr z hf
  | f + 1, p, h, hf => by
    by_cases hp : p ∈ l
    · show ¬ (if p ∈ l then _ else p) ∈ l
      rw [if_pos hp]
      refine nxt_free f _ h ?_
      rcases hf with z | z
      · exact absurd z ((h p).mpr hp)
      · exact z
    · show ¬ (if p ∈ l then _ else p) ∈ l
      rw [if_neg hp]
      exact hp
theorem nxt_in {n : Int} (hn : 0 < n) {l : List Int} : ∀ (f : Nat) (p : Int), 0 ≤ p → p < n → 0 ≤ nxt n f l p ∧ nxt n f l p < n
  | 0, p, h0, h1 => ⟨h0, h1⟩
  | f + 1, p, h0, h1 => by
    show 0 ≤ (if p ∈ l then _ else p) ∧ (if p ∈ l then _ else p) < n
    by_cases hp : p ∈ l
    · rw [if_pos hp]
      exact nxt_in hn f _ (Int.emod_nonneg _ (by omega)) (Int.emod_lt_of_pos _ hn)
    · rw [if_neg hp]
      exact ⟨h0, h1⟩
/-! ### a free place -/
theorem pigeon : ∀ (k : Nat) (l : List Int), (∀ i : Nat, i < k → (i : Int) ∈ l) → k ≤ l.length
  | 0, _, _ => Nat.zero_le _
  | k + 1, l, h => by
    have hk := h k (Nat.lt_succ_self k)
    have ih := pigeon k (l.erase (k : Int)) fun i hi => (List.mem_erase_of_ne (by omega)).mpr (h i (by omega))
    rw [List.length_erase_of_mem hk] at ih
    have : 0 < l.length := List.length_pos_of_mem hk
    omega
theorem fr_of {n : Int} (hn : 0 < n) {m : Int → Option Nat} {q : Int} (hq0 : 0 ≤ q) (hq : q < n) (hm : m q = none) : ∀ (f : Nat) (p : Int), 0 ≤ p → p < n → (q - p) % n ≤ f → Fr n f m p
  | 0, p, h0, h1, h => by
    have e : (q - p) % n = 0 := by
      have := Int.emod_nonneg (q - p) (show n ≠ 0 by omega)
      omega
    have e2 : q = p := by
      have a1 := Int.emod_add_mul_ediv (q - p) n
      rw [e] at a1
      have a2 : (q - p) / n = 0 := by
        rcases Int.lt_trichotomy ((q - p) / n) 0 with z | z | z
        · have : n * ((q - p) / n) ≤ n * (-1) := Int.mul_le_mul_of_nonneg_left (by omega) (by omega)
          omega
        · exact z
        · have : n * 1 ≤ n * ((q - p) / n) := Int.mul_le_mul_of_nonneg_left (by omega) (by omega)
          omega
      rw [a2] at a1
      omega
    show m p = none
    rw [← e2]
    exact hm
  | f + 1, p, h0, h1, h => by
    by_cases e : q = p
    · exact .inl (by rw [← e]; exact hm)
    · refine .inr (fr_of hn hq0 hq hm f _ (Int.emod_nonneg _ (by omega)) (Int.emod_lt_of_pos _ hn) ?_)
      have e1 : (q - (p + 1) % n) % n = (q - p - 1) % n := by
        rw [Int.sub_emod, Int.emod_emod, ← Int.sub_emod]
        congr 1
        omega
      rw [e1]
      by_cases hlt : p < q
      · rw [Int.emod_eq_of_lt (by omega) (by omega)]
        rw [Int.emod_eq_of_lt (by omega) (by omega)] at h
        omega
      · have e2 : (q - p - 1) % n = q - p - 1 + n := by
          rw [← Int.add_emod_right]
          exact Int.emod_eq_of_lt (by omega) (by omega)
        have e3 : (q - p) % n = q - p + n := by
          rw [← Int.add_emod_right]
          exact Int.emod_eq_of_lt (by omega) (by omega)
        rw [e2]
        rw [e3] at h
        omega
theorem fr_any {n : Int} (hn : 0 < n) {m : Int → Option Nat} {l : List Int} (h : ∀ q, m q ≠ none ↔ q ∈ l) (hl : (l.length : Int) < n) {p : Int} (h0 : 0 ≤ p) (h1 : p < n) : Fr n n.toNat m p := by
  by_cases hx : ∀ i : Nat, i < n.toNat → (i : Int) ∈ l
  · have := pigeon n.toNat l hx
    omega
  · have ⟨i, hi⟩ : ∃ i : Nat, ¬ (i < n.toNat → (i : Int) ∈ l) := Classical.not_forall.mp hx
    have hi1 : i < n.toNat := Classical.byContradiction fun z => hi fun y => absurd y z
    have hi2 : ¬ (i : Int) ∈ l := fun z => hi fun _ => z
    refine fr_of hn (q := (i : Int)) (by omega) (by omega) ?_ n.toNat p h0 h1 ?_
    · exact Classical.byContradiction fun z => hi2 ((h _).mp z)
    · have := Int.emod_lt_of_pos ((i : Int) - p) hn
      omega
/-! ### the state, turn by turn -/
/-- wishes of a ring -/
def WsOk (n : Int) (ws : List Int) : Prop := ∀ w ∈ ws, 0 ≤ w ∧ w < n
theorem WsOk.at_ {n : Int} {ws : List Int} (h : WsOk n ws) {k : Nat} (hk : k < ws.length) : 0 ≤ at0 ws k ∧ at0 ws k < n := h _ (List.mem_of_getElem? (at0_get hk))
/-- while the car c is under way at p, the first k cars and it -/
structure Wa (n : Int) (ws : List Int) (k : Nat) (m : Int → Option Nat) (g : List Int) (c : Nat) (p : Int) : Prop where
  has : ∀ q c', m q = some c' → c' < k + 1 ∧ c' ≠ c ∧ q = (at0 ws c' + at0 g c') % n
  all : ∀ c', c' < k + 1 → c' ≠ c → m ((at0 ws c' + at0 g c') % n) = some c'
  pl : p = (at0 ws c + at0 g c) % n
  ck : c < k + 1
  len : g.length = ws.length
  zero : ∀ c', k < c' → at0 g c' = 0
  nn : ∀ c', 0 ≤ at0 g c'
structure Wf (n : Int) (ws : List Int) (k : Nat) (m : Int → Option Nat) (g : List Int) : Prop where
  has : ∀ q c', m q = some c' → c' < k ∧ q = (at0 ws c' + at0 g c') % n
  all : ∀ c', c' < k → m ((at0 ws c' + at0 g c') % n) = some c'
  len : g.length = ws.length
  zero : ∀ c', k ≤ c' → at0 g c' = 0
  nn : ∀ c', 0 ≤ at0 g c'
theorem Wf.start {n : Int} {ws : List Int} : Wf n ws 0 (fun _ => none) (List.replicate ws.length 0) := by
  have z : ∀ c', at0 (List.replicate ws.length 0) c' = 0 := fun c' => by
    unfold at0
    rw [List.getD_eq_getElem?_getD, List.getElem?_replicate]
    split <;> rfl
  exact ⟨fun q c' h => (nomatch h), fun c' h => absurd h (Nat.not_lt_zero _), List.length_replicate, fun c' _ => z c', fun c' => by rw [z]; exact Int.le_refl _⟩
theorem Wf.enter {n : Int} {ws : List Int} {k : Nat} {m : Int → Option Nat} {g : List Int} (h : Wf n ws k m g) (hw : WsOk n ws) (hk : k < ws.length) : Wa n ws k m g k (at0 ws k) := by
  refine ⟨fun q c' e => ?_, fun c' h1 h2 => h.all c' (by omega), ?_, Nat.lt_succ_self k, h.len, fun c' hc => h.zero c' (by omega), h.nn⟩
  · obtain ⟨a, b⟩ := h.has q c' e
    exact ⟨by omega, by omega, b⟩
  · rw [h.zero k (Nat.le_refl k), Int.add_zero]
    have := hw.at_ hk
    exact (Int.emod_eq_of_lt this.1 this.2).symm
theorem Wa.leave {n : Int} {ws : List Int} {k : Nat} {m : Int → Option Nat} {g : List Int} {c : Nat} {p : Int} (h : Wa n ws k m g c p) (hp : m p = none) : Wf n ws (k + 1) (put m p c) g := by
  refine ⟨fun q c' e => ?_, fun c' hc => ?_, h.len, fun c' hc => h.zero c' (by omega), h.nn⟩
  · by_cases eq : q = p
    · subst eq
      rw [put_same] at e
      cases e
      exact ⟨h.ck, h.pl⟩
    · rw [put_ne eq] at e
      obtain ⟨a, _, b⟩ := h.has q c' e
      exact ⟨a, b⟩
  · by_cases ec : c' = c
    · rw [ec, ← h.pl]
      exact put_same
    · have e := h.all c' hc ec
      rw [put_ne (fun z => by rw [z, hp] at e; cases e)]
      exact e
theorem Wa.stay {n : Int} {ws : List Int} {k : Nat} {m : Int → Option Nat} {g : List Int} {c o : Nat} {p : Int} (h : Wa n ws k m g c p) (hl : k < ws.length) : Wa n ws k m (g.set c (at0 g c + 1)) c ((p + 1) % n) := by
  have hc : c < g.length := by rw [h.len]; have := h.ck; omega
  refine ⟨fun q c' e => ?_, fun c' h1 h2 => ?_, ?_, h.ck, by rw [List.length_set]; exact h.len, fun c' hc' => ?_, fun c' => ?_⟩
  · obtain ⟨a, b, d⟩ := h.has q c' e
    exact ⟨a, b, by rw [at0_set_ne (Ne.symm b)]; exact d⟩
  · rw [at0_set_ne (Ne.symm h2)]
    exact h.all c' h1 h2
  · rw [at0_set_same hc, h.pl, Int.emod_add_emod]
    congr 1
    omega
  · rw [at0_set_ne (by have := h.ck; omega)]
    exact h.zero c' hc'
  · by_cases e : c = c'
    · subst e
      rw [at0_set_same hc]
      have := h.nn c
      omega
    · rw [at0_set_ne e]
      exact h.nn c'
theorem Wa.swap {n : Int} {ws : List Int} {k : Nat} {m : Int → Option Nat} {g : List Int} {c o : Nat} {p : Int} (h : Wa n ws k m g c p) (hl : k < ws.length) (hm : m p = some o) : Wa n ws k (put m p c) (g.set o (at0 g o + 1)) o ((p + 1) % n) := by
  obtain ⟨o1, o2, o3⟩ := h.has p o hm
  have ho : o < g.length := by rw [h.len]; omega
  refine ⟨fun q c' e => ?_, fun c' h1 h2 => ?_, ?_, o1, by rw [List.length_set]; exact h.len, fun c' hc' => ?_, fun c' => ?_⟩
  · by_cases eq : q = p
    · subst eq
      rw [put_same] at e
      cases e
      exact ⟨h.ck, Ne.symm o2, by rw [at0_set_ne o2]; exact h.pl⟩
    · rw [put_ne eq] at e
      obtain ⟨a, b, d⟩ := h.has q c' e
      have hne : c' ≠ o := fun z => eq (by rw [d, z]; exact o3.symm)
      exact ⟨a, hne, by rw [at0_set_ne (Ne.symm hne)]; exact d⟩
  · rw [at0_set_ne (Ne.symm h2)]
    by_cases ec : c' = c
    · rw [ec, ← h.pl]
      exact put_same
    · have e := h.all c' h1 ec
      rw [put_ne (fun z => by rw [z, hm] at e; exact h2 (Option.some.inj e).symm)]
      exact e
  · rw [at0_set_same ho, o3, Int.emod_add_emod]
    congr 1
    omega
  · rw [at0_set_ne (by omega)]
    exact h.zero c' hc'
  · by_cases e : o = c'
    · subst e
      rw [at0_set_same ho]
      have := h.nn o
      omega
    · rw [at0_set_ne e]
      exact h.nn c'
/-- what is known behind k cars -/
structure Know (stay : Int → Int → Bool) (n : Int) (ws : List Int) (k : Nat) : Prop where
  wf : Wf n ws k (stt stay n ws k).1 (stt stay n ws k).2
  keys : ∀ q, (stt stay n ws k).1 q ≠ none ↔ q ∈ spk n ws k
theorem Know.fr {stay : Int → Int → Bool} {n : Int} {ws : List Int} {k : Nat} (K : Know stay n ws k) (hn : 0 < n) (hw : WsOk n ws) (hk : k < ws.length) (hl : (ws.length : Int) ≤ n) : Fr n n.toNat (stt stay n ws k).1 (at0 ws k) := by
  have := hw.at_ hk
  exact fr_any hn K.keys (by rw [spk_len]; omega) this.1 this.2
theorem know {stay : Int → Int → Bool} {n : Int} {ws : List Int} (hn : 0 < n) (hw : WsOk n ws) (hl : (ws.length : Int) ≤ n) : ∀ k, k ≤ ws.length → Know stay n ws k
  | 0, _ => ⟨Wf.start, fun q => by simp [stt, spk]⟩
  | k + 1, hk => by
    have K := know (stay := stay) hn hw hl k (by omega)
    have hk' : k < ws.length := hk
    have F := K.fr hn hw hk' hl
    obtain ⟨m', g', c', p', hi, hp, e⟩ := go_ind (stay := stay) (n := n) (I := Wa n ws k) (fun m g c p o h _ _ => h.stay (o := o) hk') (fun m g c p o h hm _ => h.swap hk' hm) n.toNat _ _ _ _ (K.wf.enter hw hk') F
    refine ⟨?_, fun q => ?_⟩
    · show Wf n ws (k + 1) (go stay n n.toNat _ _ k _).1 (go stay n n.toNat _ _ k _).2
      rw [e]
      exact hi.leave hp
    · rw [show (stt stay n ws (k + 1)).1 = (go stay n n.toNat (stt stay n ws k).1 (stt stay n ws k).2 k (at0 ws k)).1 from rfl, go_keys n.toNat _ _ _ _ K.keys F q]
      show _ ↔ q ∈ spk n ws k ++ [_]
      simp
theorem spk_nodup {n : Int} {ws : List Int} (hn : 0 < n) (hw : WsOk n ws) (hl : (ws.length : Int) ≤ n) : ∀ k, k ≤ ws.length → (spk n ws k).Nodup ∧ ∀ q ∈ spk n ws k, 0 ≤ q ∧ q < n
  | 0, _ => ⟨List.nodup_nil, fun q h => absurd h (by simp [spk])⟩
  | k + 1, hk => by
    obtain ⟨h1, h2⟩ := spk_nodup hn hw hl k (by omega)
    have K := know (stay := fun _ _ => false) hn hw hl k (by omega)
    have F := K.fr hn hw hk hl
    have hw' := hw.at_ hk
    have nf := nxt_free n.toNat (at0 ws k) K.keys F
    refine ⟨?_, fun q hq => ?_⟩
    · show (spk n ws k ++ [_]).Nodup
      rw [List.nodup_append]
      refine ⟨h1, by simp, fun a ha b hb => ?_⟩
      rw [List.mem_singleton] at hb
      subst hb
      exact fun z => nf (by rw [← z]; exact ha)
    · have hq : q ∈ spk n ws k ++ [_] := hq
      rw [List.mem_append, List.mem_singleton] at hq
      rcases hq with z | z
      · exact h2 q z
      · rw [z]
        exact nxt_in hn _ _ hw'.1 hw'.2
/-- where the cars stand in the end -/
def res (stay : Int → Int → Bool) (n : Int) (ws : List Int) : List Int := List.zipWith (fun w s => (w + s) % n) ws (stt stay n ws ws.length).2
/-- the places taken in the end -/
def sp (n : Int) (ws : List Int) : List Int := spk n ws ws.length
theorem sp_len (n : Int) (ws : List Int) : (sp n ws).length = ws.length := spk_len n ws _
theorem res_get {stay : Int → Int → Bool} {n : Int} {ws : List Int} (hn : 0 < n) (hw : WsOk n ws) (hl : (ws.length : Int) ≤ n) {i : Nat} (hi : i < ws.length) :
    (res stay n ws)[i]? = some ((at0 ws i + at0 (stt stay n ws ws.length).2 i) % n) := by
  have K := know (stay := stay) hn hw hl ws.length (Nat.le_refl _)
  unfold res
  rw [List.getElem?_zipWith, at0_get hi, at0_get (by rw [K.wf.len]; exact hi)]
theorem res_len {stay : Int → Int → Bool} {n : Int} {ws : List Int} (hn : 0 < n) (hw : WsOk n ws) (hl : (ws.length : Int) ≤ n) : (res stay n ws).length = ws.length := by
  have K := know (stay := stay) hn hw hl ws.length (Nat.le_refl _)
  unfold res
  rw [List.length_zipWith, K.wf.len]
  omega
theorem res_nodup {stay : Int → Int → Bool} {n : Int} {ws : List Int} (hn : 0 < n) (hw : WsOk n ws) (hl : (ws.length : Int) ≤ n) : (res stay n ws).Nodup := by
  have K := know (stay := stay) hn hw hl ws.length (Nat.le_refl _)
  have hlen := res_len (stay := stay) hn hw hl
  unfold List.Nodup
  rw [List.pairwise_iff_getElem]
  intro i j hi hj hij e
  have e1 := res_get (stay := stay) hn hw hl (i := i) (by omega)
  have e2 := res_get (stay := stay) hn hw hl (i := j) (by omega)
  rw [List.getElem?_eq_getElem hi] at e1
  rw [List.getElem?_eq_getElem hj] at e2
  have e3 := K.wf.all i (by omega)
  have e4 := K.wf.all j (by omega)
  rw [← Option.some.inj e1, e, Option.some.inj e2, e4] at e3
  have := Option.some.inj e3
  omega
theorem res_mem {stay : Int → Int → Bool} {n : Int} {ws : List Int} (hn : 0 < n) (hw : WsOk n ws) (hl : (ws.length : Int) ≤ n) (q : Int) : q ∈ res stay n ws ↔ q ∈ sp n ws := by
  have K := know (stay := stay) hn hw hl ws.length (Nat.le_refl _)
  unfold sp
  rw [← K.keys q]
  constructor
  · intro h
    obtain ⟨i, hi⟩ := List.mem_iff_getElem?.mp h
    have hlt : i < ws.length := by
      have := (List.getElem?_eq_some_iff.mp hi).1
      rw [res_len hn hw hl] at this
      exact this
    rw [res_get hn hw hl hlt] at hi
    rw [← Option.some.inj hi, K.wf.all i hlt]
    simp
  · intro h
    cases e : (stt stay n ws ws.length).1 q with
    | none => exact absurd e h
    | some c =>
      obtain ⟨h1, h2⟩ := K.wf.has q c e
      refine List.mem_of_getElem? (i := c) ?_
      rw [res_get hn hw hl h1, ← h2]
theorem perm_of {α : Type} [DecidableEq α] : ∀ {l1 l2 : List α}, l1.Nodup → l2.Nodup → (∀ q, q ∈ l1 ↔ q ∈ l2) → l1.Perm l2 := fun h1 h2 h =>
  List.perm_iff_count.mpr fun a => by
    rw [h1.count, h2.count]
    simp [h a]
theorem res_perm {stay : Int → Int → Bool} {n : Int} {ws : List Int} (hn : 0 < n) (hw : WsOk n ws) (hl : (ws.length : Int) ≤ n) : (res stay n ws).Perm (sp n ws) :=
  perm_of (res_nodup hn hw hl) (spk_nodup hn hw hl ws.length (Nat.le_refl _)).1 (res_mem hn hw hl)
/-! ### by farthest: the least worst walk -/
/-- how far behind the place e (on the ring) -/
def rel (n e x : Int) : Int := (x - e - 1) % n
theorem rel_range {n e : Int} (hn : 0 < n) (x : Int) : 0 ≤ rel n e x ∧ rel n e x < n := ⟨Int.emod_nonneg _ (by omega), Int.emod_lt_of_pos _ hn⟩
theorem emod_uniq {n a b : Int} (hn : 0 < n) (ha : 0 ≤ a) (ha' : a < n) (hb : 0 ≤ b) (hb' : b < n) (h : n ∣ a - b) : a = b := by
  obtain ⟨k, hk⟩ := h
  rcases Int.lt_trichotomy k 0 with z | z | z
  · have : n * k ≤ n * (-1) := Int.mul_le_mul_of_nonneg_left (by omega) (by omega)
    omega
  · rw [z] at hk
    omega
  · have : n * 1 ≤ n * k := Int.mul_le_mul_of_nonneg_left (by omega) (by omega)
    omega
theorem emod_is {n a b : Int} (hn : 0 < n) (hb : 0 ≤ b) (hb' : b < n) (h : n ∣ a - b) : a % n = b := by
  refine emod_uniq hn (Int.emod_nonneg _ (by omega)) (Int.emod_lt_of_pos _ hn) hb hb' ?_
  have := Int.emod_add_mul_ediv a n
  obtain ⟨k, hk⟩ := h
  exact ⟨k - a / n, by rw [Int.mul_sub]; omega⟩
theorem rel_inj {n e x y : Int} (hn : 0 < n) (hx : 0 ≤ x) (hx' : x < n) (hy : 0 ≤ y) (hy' : y < n) (h : rel n e x = rel n e y) : x = y := by
  refine emod_uniq hn hx hx' hy hy' ?_
  have h1 := Int.emod_add_mul_ediv (x - e - 1) n
  have h2 := Int.emod_add_mul_ediv (y - e - 1) n
  unfold rel at h
  refine ⟨(x - e - 1) / n - (y - e - 1) / n, ?_⟩
  rw [Int.mul_sub]
  omega
/-- the next place, but behind e -/
theorem rel_next {n e p : Int} (hn : 0 < n) (he : 0 ≤ e) (he' : e < n) (hp : 0 ≤ p) (hp' : p < n) (h : p ≠ e) : rel n e ((p + 1) % n) = rel n e p + 1 := by
  have r := rel_range (e := e) hn p
  have hlt : rel n e p + 1 < n := by
    refine Classical.byContradiction fun z => h (emod_uniq hn hp hp' he he' ?_)
    have h1 := Int.emod_add_mul_ediv (p - e - 1) n
    have e1 : rel n e p = n - 1 := by omega
    unfold rel at e1
    exact ⟨(p - e - 1) / n + 1, by rw [Int.mul_add]; omega⟩
  refine emod_is hn (by omega) hlt ?_
  have h1 := Int.emod_add_mul_ediv (p - e - 1) n
  have h2 := Int.emod_add_mul_ediv (p + 1) n
  unfold rel
  exact ⟨(p - e - 1) / n - (p + 1) / n, by rw [Int.mul_sub]; omega⟩
/-- the distance, where no car goes past e -/
theorem rel_sub {n e q w : Int} (hn : 0 < n) (h : rel n e w ≤ rel n e q) : (q - w) % n = rel n e q - rel n e w := by
  have r1 := rel_range (e := e) hn q
  have r2 := rel_range (e := e) hn w
  refine emod_is hn (by omega) (by omega) ?_
  have h1 := Int.emod_add_mul_ediv (q - e - 1) n
  have h2 := Int.emod_add_mul_ediv (w - e - 1) n
  unfold rel
  exact ⟨(q - e - 1) / n - (w - e - 1) / n, by rw [Int.mul_sub]; omega⟩
theorem rel_sub' {n e q w : Int} (hn : 0 < n) (h : rel n e q < rel n e w) : (q - w) % n = rel n e q - rel n e w + n := by
  have r1 := rel_range (e := e) hn q
  have r2 := rel_range (e := e) hn w
  refine emod_is hn (by omega) (by omega) ?_
  have h1 := Int.emod_add_mul_ediv (q - e - 1) n
  have h2 := Int.emod_add_mul_ediv (w - e - 1) n
  unfold rel
  exact ⟨(q - e - 1) / n - (w - e - 1) / n - 1, by rw [Int.mul_sub, Int.mul_sub]; omega⟩
/-- the one that stands stays, if it has gone as far -/
def farS : Int → Int → Bool := fun old new => decide (new ≤ old)
/-- cars stand along the line behind e in the order of their wishes -/
structure Rh (n e : Int) (ws : List Int) (m : Int → Option Nat) (g : List Int) : Prop where
  pos : ∀ q c, m q = some c → 0 ≤ q ∧ q < n ∧ rel n e q = rel n e (at0 ws c) + at0 g c
  inc : ∀ q c q' c', m q = some c → m q' = some c' → rel n e q < rel n e q' → rel n e (at0 ws c) ≤ rel n e (at0 ws c')
  no : ∀ q c r, m q = some c → 0 ≤ r → r < n → m r = none → rel n e r ≤ rel n e q → rel n e r < rel n e (at0 ws c)
/-- .. and a car is under way -/
structure Ra (n e : Int) (ws : List Int) (m : Int → Option Nat) (g : List Int) (c : Nat) (p : Int) : Prop where
  rh : Rh n e ws m g
  p0 : 0 ≤ p
  p1 : p < n
  pl : rel n e p = rel n e (at0 ws c) + at0 g c
  inc : ∀ q c', m q = some c' → rel n e q < rel n e p → rel n e (at0 ws c') ≤ rel n e (at0 ws c)
  no : ∀ r, 0 ≤ r → r < n → m r = none → rel n e r < rel n e p → rel n e r < rel n e (at0 ws c)
  free : m e = none
theorem Rh.start {n e : Int} {ws g : List Int} : Rh n e ws (fun _ => none) g := ⟨fun _ _ h => (nomatch h), fun _ _ _ _ h => (nomatch h), fun _ _ _ h => (nomatch h)⟩
theorem Ra.leave {n e : Int} (hn : 0 < n) {ws : List Int} {k : Nat} {m : Int → Option Nat} {g : List Int} {c : Nat} {p : Int} (h : Ra n e ws m g c p) (hp : m p = none) (hg : 0 ≤ at0 g c) : Rh n e ws (put m p c) g := by
  refine ⟨fun q c' hq => ?_, fun q c1 q' c2 h1 h2 hlt => ?_, fun q c' r hq r0 r1 hr hle => ?_⟩
  · by_cases eq : q = p
    · subst eq
      rw [put_same] at hq
      cases hq
      exact ⟨h.p0, h.p1, h.pl⟩
    · rw [put_ne eq] at hq
      exact h.rh.pos q c' hq
  · by_cases e1 : q = p
    · subst e1
      rw [put_same] at h1
      cases h1
      have e2 : q' ≠ q := fun z => by rw [z] at hlt; omega
      rw [put_ne e2] at h2
      have := h.rh.no q' c2 q h2 h.p0 h.p1 hp (by omega)
      have := h.pl
      omega
    · rw [put_ne e1] at h1
      by_cases e2 : q' = p
      · subst e2
        rw [put_same] at h2
        cases h2
        exact h.inc q c1 h1 hlt
      · rw [put_ne e2] at h2
        exact h.rh.inc q c1 q' c2 h1 h2 hlt
  · have erp : r ≠ p := fun z => by rw [z, put_same] at hr; cases hr
    rw [put_ne erp] at hr
    by_cases eq : q = p
    · subst eq
      rw [put_same] at hq
      cases hq
      have : rel n e r ≠ rel n e q := fun z => erp (rel_inj hn r0 r1 h.p0 h.p1 z)
      exact h.no r r0 r1 hr (by omega)
    · rw [put_ne eq] at hq
      exact h.rh.no q c' r hq r0 r1 hr hle
theorem Ra.stay {n e : Int} (hn : 0 < n) (he : 0 ≤ e) (he' : e < n) {ws : List Int} {k : Nat} {m : Int → Option Nat} {g : List Int} {c o : Nat} {p : Int} (h : Ra n e ws m g c p) (W : Wa n ws k m g c p) (hl : k < ws.length) (hm : m p = some o) (hs : farS (at0 g o) (at0 g c) = true) :
    Ra n e ws m (g.set c (at0 g c + 1)) c ((p + 1) % n) := by
  have hc : c < g.length := by rw [W.len]; have := W.ck; omega
  have hpe : p ≠ e := fun z => by rw [z, h.free] at hm; cases hm
  have hx := rel_next hn he he' h.p0 h.p1 hpe
  have hs' : at0 g c ≤ at0 g o := of_decide_eq_true hs
  obtain ⟨_, _, ho⟩ := h.rh.pos p o hm
  have hpl := h.pl
  refine ⟨⟨fun q c' hq => ?_, h.rh.inc, h.rh.no⟩, Int.emod_nonneg _ (by omega), Int.emod_lt_of_pos _ hn, ?_, fun q c' hq hlt => ?_, fun r r0 r1 hr hlt => ?_, h.free⟩
  · obtain ⟨_, b, _⟩ := W.has q c' hq
    rw [at0_set_ne (Ne.symm b)]
    exact h.rh.pos q c' hq
  · rw [at0_set_same hc, hx]
    omega
  · rw [hx] at hlt
    by_cases eq : rel n e q < rel n e p
    · exact h.inc q c' hq eq
    · have e2 : rel n e q = rel n e p := by omega
      obtain ⟨a, b, _⟩ := h.rh.pos q c' hq
      have e3 := rel_inj hn a b h.p0 h.p1 e2
      rw [e3, hm] at hq
      cases hq
      omega
  · rw [hx] at hlt
    have : rel n e r ≠ rel n e p := fun z => by
      have e3 := rel_inj hn r0 r1 h.p0 h.p1 z
      rw [e3, hm] at hr
      cases hr
    exact h.no r r0 r1 hr (by omega)
theorem Ra.swap {n e : Int} (hn : 0 < n) (he : 0 ≤ e) (he' : e < n) {ws : List Int} {k : Nat} {m : Int → Option Nat} {g : List Int} {c o : Nat} {p : Int} (h : Ra n e ws m g c p) (W : Wa n ws k m g c p) (hl : k < ws.length) (hm : m p = some o) (hs : farS (at0 g o) (at0 g c) = false) :
    Ra n e ws (put m p c) (g.set o (at0 g o + 1)) o ((p + 1) % n) := by
  obtain ⟨o1, o2, o3⟩ := W.has p o hm
  have ho : o < g.length := by rw [W.len]; omega
  have hpe : p ≠ e := fun z => by rw [z, h.free] at hm; cases hm
  have hx := rel_next hn he he' h.p0 h.p1 hpe
  have hs' : ¬ at0 g c ≤ at0 g o := of_decide_eq_false hs
  obtain ⟨_, _, hoo⟩ := h.rh.pos p o hm
  have hpl := h.pl
  have hr' : ∀ r, put m p c r = none → m r = none := fun r z => (put_keys hm r).mpr z
  refine ⟨⟨fun q c' hq => ?_, fun q c1 q' c2 h1 h2 hlt => ?_, fun q c' r hq r0 r1 hr hle => ?_⟩, Int.emod_nonneg _ (by omega), Int.emod_lt_of_pos _ hn, ?_, fun q c' hq hlt => ?_, fun r r0 r1 hr hlt => ?_, ?_⟩
  · by_cases eq : q = p
    · subst eq
      rw [put_same] at hq
      cases hq
      exact ⟨h.p0, h.p1, by rw [at0_set_ne o2]; exact h.pl⟩
    · rw [put_ne eq] at hq
      obtain ⟨_, b, d⟩ := W.has q c' hq
      have hne : c' ≠ o := fun z => eq (by rw [d, z]; exact o3.symm)
      rw [at0_set_ne (Ne.symm hne)]
      exact h.rh.pos q c' hq
  · by_cases e1 : q = p
    · subst e1
      rw [put_same] at h1
      cases h1
      have e2 : q' ≠ q := fun z => by rw [z] at hlt; omega
      rw [put_ne e2] at h2
      have := h.rh.inc q o q' c2 hm h2 hlt
      omega
    · rw [put_ne e1] at h1
      by_cases e2 : q' = p
      · subst e2
        rw [put_same] at h2
        cases h2
        exact h.inc q c1 h1 hlt
      · rw [put_ne e2] at h2
        exact h.rh.inc q c1 q' c2 h1 h2 hlt
  · have hr2 := hr' r hr
    by_cases eq : q = p
    · subst eq
      rw [put_same] at hq
      cases hq
      have : rel n e r ≠ rel n e q := fun z => by
        have e3 := rel_inj hn r0 r1 h.p0 h.p1 z
        rw [e3, hm] at hr2
        cases hr2
      exact h.no r r0 r1 hr2 (by omega)
    · rw [put_ne eq] at hq
      exact h.rh.no q c' r hq r0 r1 hr2 hle
  · rw [at0_set_same ho, hx]
    omega
  · rw [hx] at hlt
    by_cases eq : q = p
    · subst eq
      rw [put_same] at hq
      cases hq
      omega
    · rw [put_ne eq] at hq
      have h3 : rel n e q ≠ rel n e p := fun z => by
        obtain ⟨a, b, _⟩ := h.rh.pos q c' hq
        exact eq (rel_inj hn a b h.p0 h.p1 z)
      exact h.rh.inc q c' p o hq hm (by omega)
  · rw [hx] at hlt
    have hr2 := hr' r hr
    have : rel n e r ≠ rel n e p := fun z => by
      have e3 := rel_inj hn r0 r1 h.p0 h.p1 z
      rw [e3, hm] at hr2
      cases hr2
    exact h.rh.no p o r hm r0 r1 hr2 (by omega)
  · rw [put_ne (Ne.symm hpe)]
    exact h.free
theorem Rh.enter {n e : Int} (hn : 0 < n) {ws : List Int} {k : Nat} {m : Int → Option Nat} {g : List Int} (h : Rh n e ws m g) (W : Wf n ws k m g) (hw : WsOk n ws) (hk : k < ws.length) (hf : m e = none) : Ra n e ws m g k (at0 ws k) := by
  have := hw.at_ hk
  refine ⟨h, this.1, this.2, by rw [W.zero k (Nat.le_refl k)]; omega, fun q c' hq hlt => ?_, fun r r0 r1 hr hlt => hlt, hf⟩
  have h1 := (h.pos q c' hq).2.2
  have h2 := W.nn c'
  omega
/-- behind k + 1 cars: a place e that was free behind k cars -/
theorem rh_all {n e : Int} (hn : 0 < n) (he : 0 ≤ e) (he' : e < n) {ws : List Int} (hw : WsOk n ws) (hl : (ws.length : Int) ≤ n) : ∀ k, k < ws.length → (stt farS n ws k).1 e = none → Rh n e ws (stt farS n ws k).1 (stt farS n ws k).2 ∧ Rh n e ws (stt farS n ws (k + 1)).1 (stt farS n ws (k + 1)).2 := by
  have step : ∀ k, k < ws.length → (stt farS n ws k).1 e = none → Rh n e ws (stt farS n ws k).1 (stt farS n ws k).2 → Rh n e ws (stt farS n ws (k + 1)).1 (stt farS n ws (k + 1)).2 := fun k hk hf h => by
    have K := know (stay := farS) hn hw hl k (by omega)
    have F := K.fr hn hw hk hl
    obtain ⟨m', g', c', p', ⟨W', hi⟩, hp, eq⟩ := go_ind (stay := farS) (n := n) (I := fun m g c p => Wa n ws k m g c p ∧ Ra n e ws m g c p)
      (fun m g c p o hh hm hs => ⟨hh.1.stay (o := o) hk, hh.2.stay hn he he' hh.1 hk hm hs⟩) (fun m g c p o hh hm hs => ⟨hh.1.swap hk hm, hh.2.swap hn he he' hh.1 hk hm hs⟩) n.toNat _ _ _ _ ⟨K.wf.enter hw hk, h.enter hn K.wf hw hk hf⟩ F
    show Rh n e ws (go farS n n.toNat _ _ k _).1 (go farS n n.toNat _ _ k _).2
    rw [eq]
    exact hi.leave (k := k) hn hp (W'.nn c')
  intro k
  induction k with
  | zero => exact fun hk hf => ⟨Rh.start, step 0 hk hf Rh.start⟩
  | succ k ih =>
    intro hk hf
    have K := know (stay := farS) hn hw hl k (by omega)
    have K1 := know (stay := farS) hn hw hl (k + 1) (by omega)
    have hf' : (stt farS n ws k).1 e = none := Classical.byContradiction fun z => by
      have h1 := (K.keys e).mp z
      have h2 : e ∈ spk n ws (k + 1) := List.mem_append.mpr (.inl h1)
      exact (K1.keys e).mpr h2 hf
    have := (ih (by omega) hf').2
    exact ⟨this, step (k + 1) hk hf this⟩
/-! ### the least worst walk by all stands -/
def min2 (i j : Int) : Int := if j < i then j else i
def max2 (i j : Int) : Int := if j > i then j else i
/-- the rest of the places -/
def but (ps : List Int) (p : Int) : List Int := ps.filter fun q => !decide (q = p)
def least (n : Int) : List Int → List Int → Int
  | [], _ => 0
  | w :: ws, ps => ps.foldl (fun f p => min2 f (max2 ((p - w) % n) (least n ws (but ps p)))) n
theorem min2_ge {i j W : Int} (h1 : W ≤ i) (h2 : W ≤ j) : W ≤ min2 i j := by
  unfold min2
  split <;> omega
theorem min2_le1 {i j : Int} : min2 i j ≤ i := by
  unfold min2
  split <;> omega
theorem min2_le2 {i j : Int} : min2 i j ≤ j := by
  unfold min2
  split <;> omega
theorem max2_ge1 {i j : Int} : i ≤ max2 i j := by
  unfold max2
  split <;> omega
theorem max2_ge2 {i j : Int} : j ≤ max2 i j := by
  unfold max2
  split <;> omega
theorem max2_le {i j D : Int} (h1 : i ≤ D) (h2 : j ≤ D) : max2 i j ≤ D := by
  unfold max2
  split <;> omega
theorem fold_ge {W : Int} {v : Int → Int} : ∀ (l : List Int) (a : Int), W ≤ a → (∀ p ∈ l, W ≤ v p) → W ≤ l.foldl (fun f p => min2 f (v p)) a
  | [], a, h, _ => h
  | p :: l, a, h, hv => fold_ge l _ (min2_ge h (hv p List.mem_cons_self)) fun q hq => hv q (List.mem_cons_of_mem _ hq)
theorem fold_le_init {v : Int → Int} : ∀ (l : List Int) (a : Int), l.foldl (fun f p => min2 f (v p)) a ≤ a
  | [], a => Int.le_refl _
  | p :: l, a => Int.le_trans (fold_le_init l _) min2_le1
theorem fold_le {v : Int → Int} : ∀ (l : List Int) (a : Int) (p : Int), p ∈ l → l.foldl (fun f p => min2 f (v p)) a ≤ v p
  | [], _, p, h => absurd h (by simp)
  | q :: l, a, p, h => by
    rcases List.mem_cons.mp h with e | e
    · subst e
      exact Int.le_trans (fold_le_init l _) min2_le2
    · exact fold_le l _ p e
theorem but_mem {ps : List Int} {p q : Int} : q ∈ but ps p ↔ q ∈ ps ∧ q ≠ p := by
  unfold but
  simp [List.mem_filter]
theorem but_nodup {ps : List Int} {p : Int} (h : ps.Nodup) : (but ps p).Nodup := h.filter _
theorem but_no {ps : List Int} {p : Int} (h : ¬ p ∈ ps) : but ps p = ps := by
  unfold but
  rw [List.filter_eq_self]
  intro a ha
  have : a ≠ p := fun z => h (by rw [← z]; exact ha)
  simp [this]
theorem but_count {B : Int → Bool} : ∀ {ps : List Int} {p : Int}, ps.Nodup → p ∈ ps → (but ps p).countP B + (if B p = true then 1 else 0) = ps.countP B
  | [], p, _, h => absurd h (by simp)
  | q :: ps, p, nd, h => by
    obtain ⟨n1, n2⟩ := List.nodup_cons.mp nd
    by_cases e : q = p
    · subst e
      have e1 : but (q :: ps) q = ps := by
        have : but (q :: ps) q = but ps q := by
          unfold but
          rw [List.filter_cons]
          simp
        rw [this, but_no n1]
      rw [e1, List.countP_cons]
    · have e1 : but (q :: ps) p = q :: but ps p := by
        unfold but
        rw [List.filter_cons]
        simp [e]
      have hp : p ∈ ps := by
        rcases List.mem_cons.mp h with z | z
        · exact absurd z.symm e
        · exact z
      have ih := but_count (B := B) n2 hp
      rw [e1, List.countP_cons, List.countP_cons]
      omega
theorem least_nn {n : Int} (hn : 0 < n) : ∀ (ws ps : List Int), 0 ≤ least n ws ps
  | [], _ => Int.le_refl _
  | w :: ws, ps => fold_ge ps n (by omega) fun p _ => Int.le_trans (Int.emod_nonneg _ (by omega)) max2_ge1
theorem least_ge {n W : Int} (A B : Int → Bool) (hW : W ≤ n) : ∀ (ws ps : List Int), ps.Nodup → (∀ w ∈ ws, ∀ q ∈ ps, A w = true → B q = false → W ≤ (q - w) % n) → ps.countP B < ws.countP A → W ≤ least n ws ps
  | [], ps, _, _, h => by simp at h
  | w :: ws, ps, nd, hab, h => by
    refine fold_ge ps n hW fun p hp => ?_
    have hc := but_count (B := B) nd hp
    rw [List.countP_cons] at h
    have rest : (but ps p).countP B < ws.countP A → W ≤ max2 ((p - w) % n) (least n ws (but ps p)) := fun h2 =>
      Int.le_trans (least_ge A B hW ws _ (but_nodup nd) (fun w' hw' q hq => hab w' (List.mem_cons_of_mem _ hw') q (but_mem.mp hq).1) h2) max2_ge2
    cases hA : A w with
    | false =>
      refine rest ?_
      rw [hA] at h
      simp at h
      omega
    | true =>
      rw [hA] at h
      simp at h
      cases hB : B p with
      | false => exact Int.le_trans (hab w List.mem_cons_self p hp hA hB) max2_ge1
      | true =>
        refine rest ?_
        rw [hB] at hc
        simp at hc
        omega
/-- the walks of a stand -/
def wk (n : Int) (st ws : List Int) : List Int := List.zipWith (fun p w => (p - w) % n) st ws
theorem least_le {n D : Int} (hD : 0 ≤ D) : ∀ (ws st ps : List Int), st.length = ws.length → ps.Nodup → st.Perm ps → (∀ x ∈ wk n st ws, x ≤ D) → least n ws ps ≤ D
  | [], _, _, _, _, _, _ => hD
  | w :: ws, [], ps, hl, _, _, _ => by simp at hl
  | w :: ws, s :: st, ps, hl, nd, hp, hx => by
    have hs : s ∈ ps := hp.mem_iff.mp List.mem_cons_self
    refine Int.le_trans (fold_le ps n s hs) (max2_le (hx _ List.mem_cons_self) (least_le hD ws st _ (by simpa using hl) (but_nodup nd) ?_ fun x h => hx x (List.mem_cons_of_mem _ h)))
    have nd2 : (s :: st).Nodup := hp.nodup_iff.mpr nd
    obtain ⟨n1, n2⟩ := List.nodup_cons.mp nd2
    refine perm_of n2 (but_nodup nd) fun q => ?_
    rw [but_mem, ← hp.mem_iff, List.mem_cons]
    constructor
    · exact fun h => ⟨.inr h, fun z => n1 (by rw [← z]; exact h)⟩
    · rintro ⟨h | h, z⟩
      · exact absurd h z
      · exact h
theorem count_zip {p q : Int → Bool} : ∀ {l1 l2 : List Int}, l1.length = l2.length → (∀ (i : Nat) a b, l1[i]? = some a → l2[i]? = some b → p a = true → q b = true) → l1.countP p ≤ l2.countP q
  | [], [], _, _ => Nat.le_refl _
  | [], _ :: _, h, _ => by simp at h
  | _ :: _, [], h, _ => by simp at h
  | a :: l1, b :: l2, h, hi => by
    have ih := count_zip (p := p) (q := q) (l1 := l1) (l2 := l2) (by simpa using h) fun i x y h1 h2 => hi (i + 1) x y (by simpa using h1) (by simpa using h2)
    have h0 := hi 0 a b rfl rfl
    rw [List.countP_cons, List.countP_cons]
    cases hp : p a with
    | false =>
      simp
      omega
    | true =>
      rw [h0 hp]
      simp
      omega
theorem count_lt {p q : Int → Bool} : ∀ {l : List Int} {a : Int}, a ∈ l → p a = false → q a = true → (∀ x, p x = true → q x = true) → l.countP p < l.countP q
  | [], _, h, _, _, _ => absurd h (by simp)
  | b :: l, a, h, hp, hq, hpq => by
    have hle : l.countP p ≤ l.countP q := List.countP_mono_left fun x _ => hpq x
    rw [List.countP_cons, List.countP_cons]
    rcases List.mem_cons.mp h with e | e
    · subst e
      rw [hp, hq]
      simp
      omega
    · have ih := count_lt e hp hq hpq
      cases hb : p b with
      | false =>
        simp
        omega
      | true =>
        rw [hpq b hb]
        simp
        omega
/-- D is the greatest of l -/
def Mx (l : List Int) (D : Int) : Prop := D ∈ l ∧ ∀ y ∈ l, y ≤ D
theorem Mx.uniq {l : List Int} {D E : Int} (h : Mx l D) (k : Mx l E) : D = E := Int.le_antisymm (k.2 D h.1) (h.2 E k.1)
theorem Mx.ex : ∀ (l : List Int), l ≠ [] → ∃ D, Mx l D
  | [], h => absurd rfl h
  | [a], _ => ⟨a, by simp, by simp⟩
  | a :: b :: l, _ => by
    obtain ⟨D, h1, h2⟩ := Mx.ex (b :: l) (by simp)
    by_cases h : D ≤ a
    · refine ⟨a, by simp, fun y hy => ?_⟩
      rcases List.mem_cons.mp hy with e | e
      · omega
      · have := h2 y e
        omega
    · refine ⟨D, List.mem_cons_of_mem _ h1, fun y hy => ?_⟩
      rcases List.mem_cons.mp hy with e | e
      · omega
      · exact h2 y e
theorem free_ex {n : Int} {m : Int → Option Nat} {l : List Int} (h : ∀ q, m q ≠ none ↔ q ∈ l) (hl : (l.length : Int) < n) : ∃ e, 0 ≤ e ∧ e < n ∧ m e = none := by
  by_cases hx : ∀ i : Nat, i < n.toNat → (i : Int) ∈ l
  · have := pigeon n.toNat l hx
    omega
  · have ⟨i, hi⟩ : ∃ i : Nat, ¬ (i < n.toNat → (i : Int) ∈ l) := Classical.not_forall.mp hx
    have hi1 : i < n.toNat := Classical.byContradiction fun z => hi fun y => absurd y z
    have hi2 : ¬ (i : Int) ∈ l := fun z => hi fun _ => z
    exact ⟨i, by omega, by omega, Classical.byContradiction fun z => hi2 ((h _).mp z)⟩
/-- THE LAW'S HEART: by farthest gives a stand with the least worst walk -/
theorem far_best {n : Int} (hn : 0 < n) {ws : List Int} (hw : WsOk n ws) (hl : (ws.length : Int) ≤ n) {ps : List Int} (hp : ps.Perm (sp n ws)) : Mx (wk n (res farS n ws) ws ++ [0]) (least n ws ps) := by
  have hlen := res_len (stay := farS) hn hw hl
  have hperm := res_perm (stay := farS) hn hw hl
  have ndP : ps.Nodup := hp.nodup_iff.mpr (spk_nodup hn hw hl ws.length (Nat.le_refl _)).1
  obtain ⟨D, hD⟩ := Mx.ex (wk n (res farS n ws) ws ++ [0]) (by simp)
  have hD0 : 0 ≤ D := hD.2 0 (by simp)
  have hle : least n ws ps ≤ D := least_le hD0 ws (res farS n ws) ps hlen ndP (hperm.trans hp.symm) fun x hx => hD.2 x (List.mem_append_left _ hx)
  have hge : D ≤ least n ws ps := by
    rcases List.mem_append.mp hD.1 with h | h
    · obtain ⟨i, hi⟩ := List.mem_iff_getElem?.mp h
      unfold wk at hi
      rw [List.getElem?_zipWith] at hi
      have hilt : i < ws.length := by
        refine Classical.byContradiction fun z => ?_
        rw [List.getElem?_eq_none_iff.mpr (show ws.length ≤ i by omega)] at hi
        cases h2 : (res farS n ws)[i]? with
        | none => rw [h2] at hi; cases hi
        | some x => rw [h2] at hi; cases hi
      obtain ⟨k, hk⟩ : ∃ k, ws.length = k + 1 := ⟨ws.length - 1, by omega⟩
      have K := know (stay := farS) hn hw hl k (by omega)
      have KF := know (stay := farS) hn hw hl ws.length (Nat.le_refl _)
      obtain ⟨e, he, he', hf⟩ := free_ex (n := n) K.keys (by rw [spk_len]; omega)
      have R := (rh_all hn he he' hw hl k (by omega) hf).2
      rw [← hk] at R
      have at_ : ∀ j, j < ws.length → ∃ q, (res farS n ws)[j]? = some q ∧ (stt farS n ws ws.length).1 q = some j := fun j hj => ⟨_, res_get hn hw hl hj, KF.wf.all j hj⟩
      obtain ⟨q, hq, hmq⟩ := at_ i hilt
      rw [hq, at0_get hilt] at hi
      have hDi : (q - at0 ws i) % n = D := Option.some.inj hi
      obtain ⟨q0, q1, hrel⟩ := R.pos q i hmq
      have gnn := KF.wf.nn i
      have hsub := rel_sub (e := e) (q := q) (w := at0 ws i) hn (by omega)
      refine least_ge (fun w => decide (rel n e w ≤ rel n e (at0 ws i))) (fun z => decide (rel n e z < rel n e q)) ?_ ws ps ndP (fun w _ z _ hA hB => ?_) ?_
      · rw [← hDi]
        exact Int.le_of_lt (Int.emod_lt_of_pos _ hn)
      · have h1 : rel n e w ≤ rel n e (at0 ws i) := of_decide_eq_true hA
        have h2 : ¬ rel n e z < rel n e q := of_decide_eq_false hB
        have := rel_sub (e := e) (q := z) (w := w) hn (by omega)
        omega
      · rw [show ps.countP (fun z => decide (rel n e z < rel n e q)) = (res farS n ws).countP (fun z => decide (rel n e z < rel n e q)) from (hp.trans hperm.symm).countP_eq _]
        refine Nat.lt_of_lt_of_le (count_lt (q := fun z => decide (rel n e z ≤ rel n e q)) (List.mem_of_getElem? hq) (decide_eq_false (by omega)) (decide_eq_true (by omega)) fun x hx => decide_eq_true (Int.le_of_lt (of_decide_eq_true hx))) (count_zip hlen fun j a b ha hb h => ?_)
        have hj : j < ws.length := (List.getElem?_eq_some_iff.mp hb).1
        obtain ⟨a', ha', hma⟩ := at_ j hj
        rw [ha] at ha'
        cases ha'
        rw [at0_get hj] at hb
        cases hb
        have h1 : rel n e a ≤ rel n e q := of_decide_eq_true h
        refine decide_eq_true ?_
        by_cases h2 : rel n e a < rel n e q
        · exact R.inc a j q i hma hmq h2
        · obtain ⟨a0, a1, _⟩ := R.pos a j hma
          have h3 := rel_inj hn a0 a1 q0 q1 (show rel n e a = rel n e q by omega)
          rw [h3, hmq] at hma
          rw [Option.some.inj hma]
          exact Int.le_refl _
    · rw [List.mem_singleton] at h
      rw [h]
      exact least_nn hn ws ps
  rw [show least n ws ps = D from Int.le_antisymm hle hge]
  exact hD
/-! ### the greatest, sorted lists, stands -/
def mxl (l : List Int) : Int := l.foldl max2 0
theorem fold_mx : ∀ (l : List Int) (a : Int), (l.foldl max2 a = a ∨ l.foldl max2 a ∈ l) ∧ a ≤ l.foldl max2 a ∧ ∀ y ∈ l, y ≤ l.foldl max2 a
  | [], a => ⟨.inl rfl, Int.le_refl _, fun y h => absurd h (by simp)⟩
  | x :: l, a => by
    obtain ⟨h1, h2, h3⟩ := fold_mx l (max2 a x)
    have g1 : a ≤ max2 a x := max2_ge1
    have g2 : x ≤ max2 a x := max2_ge2
    have g3 : max2 a x = a ∨ max2 a x = x := by
      unfold max2
      split
      · exact .inr rfl
      · exact .inl rfl
    refine ⟨?_, Int.le_trans g1 h2, fun y hy => ?_⟩
    · rcases h1 with e | e
      · rcases g3 with z | z
        · exact .inl (by show l.foldl max2 (max2 a x) = a; rw [e, z])
        · exact .inr (by show l.foldl max2 (max2 a x) ∈ x :: l; rw [e, z]; exact List.mem_cons_self)
      · exact .inr (List.mem_cons_of_mem _ e)
    · rcases List.mem_cons.mp hy with e | e
      · rw [e]
        exact Int.le_trans g2 h2
      · exact h3 y e
theorem mxl_mx (l : List Int) : Mx (l ++ [0]) (mxl l) := by
  obtain ⟨h1, h2, h3⟩ := fold_mx l 0
  refine ⟨?_, fun y hy => ?_⟩
  · rcases h1 with e | e
    · show l.foldl max2 0 ∈ _
      rw [e]
      simp
    · exact List.mem_append_left _ e
  · rcases List.mem_append.mp hy with e | e
    · exact h3 y e
    · rw [List.mem_singleton] at e
      rw [e]
      exact h2
theorem sorted_uniq {a b : List Int} (hp : a.Perm b) (ha : a.Pairwise (· ≤ ·)) (hb : b.Pairwise (· ≤ ·)) : a = b :=
  hp.eq_of_pairwise (fun x y _ _ h1 h2 => Int.le_antisymm h1 h2) ha hb
/-- a value is a stand -/
def isSt (n : Int) (ws vs : List Int) : Bool := vs.isPerm (sp n ws)
theorem isSt_iff {n : Int} {ws vs : List Int} : isSt n ws vs = true ↔ vs.Perm (sp n ws) := List.isPerm_iff
/-- .. in which no walk is greater than the least worst -/
def shB (n : Int) (ws vs : List Int) : Bool := isSt n ws vs && decide (mxl (wk n vs ws) = mxl (wk n (res farS n ws) ws))
/-- where the range is left nothing stands -/
theorem isSt_range {n : Int} {ws vs : List Int} (hn : 0 < n) (hw : WsOk n ws) (hl : (ws.length : Int) ≤ n) (h : isSt n ws vs = true) : (vs.all fun i => decide (0 ≤ i) && decide (i ≤ n - 1)) = true := by
  rw [List.all_eq_true]
  intro x hx
  have := (spk_nodup hn hw hl ws.length (Nat.le_refl _)).2 x ((isSt_iff.mp h).mem_iff.mp hx)
  rw [Bool.and_eq_true]
  exact ⟨decide_eq_true this.1, decide_eq_true (by omega)⟩
def lastS : Int → Int → Bool := fun _ _ => false
end K13
/-! zip of lists and tuples in any mix, enumerate of a tuple, sorted of a tuple, a tuple turned round, a tuple times nought or one. -/
namespace K13
open PySem PySem.Spec PyProof.Rows L2
/-! ### a list (true) or a tuple (false) -/
def SqB (k : Bool) (K : PySem.W.Frag) (H : Hp) (a : Addr) (xs : List V) : Prop := match k with
  | true => SqL K H a xs
  | false => SqT K H a xs
def ItB (k : Bool) (h : Heap) (it a : Addr) (i : Nat) : Prop := match k with
  | true => h.IsListIter it a i
  | false => h.IsTupleIter it a i
def IsB (k : Bool) (h : Heap) (a : Addr) (items : Array Value) : Prop := match k with
  | true => h.IsList a items
  | false => h.IsTuple a items
def ItBO (k : Bool) (a : Addr) : Obj := match k with
  | true => { cls := .type "list_iterator", data := .fields #[.ref a, .int 0 0] }
  | false => { cls := .type "tuple_iterator", data := .fields #[.ref a, .int 0 0] }
theorem drawsB {prog : Program} {w : World} {A : Around} (k : Bool) (hh : A.handled = none) (it a : Addr) (hne : a ≠ it) (items : Array Value) :
    Draws prog w A it [it, a] items.size (fun i v => items[i]? = some v) (fun i h => ItB k h it a i ∧ IsB k h a items) := by
  cases k with
  | true => exact Draws.list hh it a hne items
  | false => exact Draws.tuple hh it a hne items
theorem beginsB (k : Bool) (a : Addr) (items : Array Value) : Begins (.ref a) (ItBO k a) (fun h => IsB k h a items) := by
  cases k with
  | true => exact begins_list a items
  | false => exact begins_tuple a items
theorem ItB.obj {k : Bool} {h : Heap} {it a : Addr} {i : Nat} (x : ItB k h it a i) : ∃ o, h.get? it = some o ∧ ∀ v, o.data ≠ .cell v := by
  cases k with
  | true =>
    obtain ⟨o, e, _, d⟩ := x
    exact ⟨o, e, fun v z => by rw [d] at z; cases z⟩
  | false =>
    obtain ⟨o, e, _, d⟩ := x
    exact ⟨o, e, fun v z => by rw [d] at z; cases z⟩
theorem ItB.at_ {k : Bool} {h h' : Heap} {it a : Addr} {i : Nat} (x : ItB k h it a i) (e : ∀ o, h.get? it = some o → h'.get? it = some o) : ItB k h' it a i := by
  cases k with
  | true => exact Heap.IsListIter.at x e
  | false => exact Heap.IsTupleIter.at x e
theorem itB_new {k : Bool} {h : Heap} {it a : Addr} (e : h.get? it = some (ItBO k a)) : ItB k h it a 0 := by
  cases k with
  | true => exact ⟨_, e, rfl, rfl⟩
  | false => exact ⟨_, e, rfl, rfl⟩
theorem IsB.lt {k : Bool} {h : Heap} {a : Addr} {items : Array Value} (x : IsB k h a items) : a < h.objs.size := by
  cases k with
  | true =>
    obtain ⟨o, e, _⟩ := x
    exact Heap.lt_size e
  | false =>
    obtain ⟨o, e, _⟩ := x
    exact Heap.lt_size e
section
variable {X : Cx} {pins : List (Addr × Obj)} {σ : L2.St} {H : Hp} {s : Shared} {a : Addr} {xs ys : List V} {k : Bool}
theorem seqB (I : Inv X pins σ H s) (h : SqB k X.K H a xs) : ∃ its : List Value, Vals xs its ∧ IsB k s.heap a its.toArray ∧ xs.length ≤ sizeLine := by
  cases k with
  | true =>
    obtain ⟨its, r, p, z⟩ := I.list h
    exact ⟨its, r, p.isList, z⟩
  | false =>
    obtain ⟨its, r, p, z⟩ := I.tuple h
    exact ⟨its, r, p, z⟩
theorem seqB_inj (I : Inv X pins σ H s) (h : SqB k X.K H a xs) (h' : SqB k X.K H a ys) : xs = ys := by
  cases k with
  | true => exact I.list_inj h h'
  | false => exact I.tuple_inj h h'
end
/-- zip of a and b, each a list or a tuple -/
def ItzB (k1 k2 : Bool) (K : PySem.W.Frag) (a b : Addr) : It :=
  ⟨fun i H => ∃ (xs ys : List V) (x y : V), SqB k1 K H a xs ∧ SqB k2 K H b ys ∧ xs[i]? = some x ∧ ys[i]? = some y,
    fun i H v H' => ∃ T x y, v = .ref T ∧ H T = none ∧ H' = upd H T (.tup [x, y]) ∧ (∀ xs, SqB k1 K H a xs → xs[i]? = some x) ∧ ∀ ys, SqB k2 K H b ys → ys[i]? = some y,
    fun i H => ∃ xs ys : List V, SqB k1 K H a xs ∧ SqB k2 K H b ys ∧ (xs.length = i ∨ ys.length = i) ∧ i ≤ xs.length ∧ i ≤ ys.length⟩
theorem turn_zipB {P : Program} {w : World} {K : PySem.W.Frag} {elts : List Expr} {kk : Nat} {tpos : Pos} {k1 k2 : Bool} {a b z TI TO i1 i2 : Addr} (D : ZipSep2 z TI TO i1 i2 [i1, a] [i2, b]) (ha : a ≠ i1) (hb : b ≠ i2) :
    Turn P w K (.Tuple elts kk tpos) (ItzB k1 k2 K a b) [z, TI, TO, i1, i2] z (fun i h => IsZip h z TI TO .none ∧ IsTupOf2 h TI (.ref i1) (.ref i2) ∧ (∃ x y, IsTupOf2 h TO x y) ∧ ItB k1 h i1 a i ∧ ItB k2 h i2 b i) where
  mem := by simp
  obj := fun i h st c hc => by
    obtain ⟨hz, hTI, ⟨x, y, hTO⟩, h1, h2⟩ := st
    have e' : c = z ∨ c = TI ∨ c = TO ∨ c = i1 ∨ c = i2 := by simpa using hc
    rcases e' with q | q | q | q | q
    · rw [q]; exact ⟨_, hz, fun v q => nomatch q⟩
    · rw [q]; exact ⟨_, hTI, fun v q => nomatch q⟩
    · rw [q]; exact ⟨_, hTO, fun v q => nomatch q⟩
    · rw [q]; exact h1.obj
    · rw [q]; exact h2.obj
  keep := fun i h h' st k => by
    obtain ⟨hz, hTI, ⟨x, y, hTO⟩, h1, h2⟩ := st
    exact ⟨k z (by simp) _ hz, k TI (by simp) _ hTI, ⟨x, y, k TO (by simp) _ hTO⟩, h1.at_ fun o q => k i1 (by simp) o q, h2.at_ fun o q => k i2 (by simp) o q⟩
  item := by
    intro X hP hw hK hc i pins s σ H E I hf st hg
    subst hP hw hK
    obtain ⟨hz, hTI, ⟨x0, y0, hTO⟩, h1, h2⟩ := st
    obtain ⟨xs, ys, x, y, hqx, hqy, hx, hy⟩ := hg
    obtain ⟨its, rv, p, _⟩ := seqB I hqx
    obtain ⟨its2, rv2, p2, _⟩ := seqB I hqy
    have hh : X.A.in1.handled = none := I.ok.hd hc
    have D1 := drawsB (prog := X.prog) (w := X.w) k1 hh i1 a ha its.toArray
    have D2 := drawsB (prog := X.prog) (w := X.w) k2 hh i2 b hb its2.toArray
    have hzl : z < s.heap.objs.size := Heap.lt_size hz
    have l1 : i < its.toArray.size := by
      have := (List.getElem?_eq_some_iff.mp hx).1
      rw [List.size_toArray, ← rv.length]
      exact this
    have l2 : i < its2.toArray.size := by
      have := (List.getElem?_eq_some_iff.mp hy).1
      rw [List.size_toArray, ← rv2.length]
      exact this
    refine wpAny_pyNext_zipD2_item D D1 D2 hz hTI hTO ⟨h1, p⟩ ⟨h2, p2⟩ l1 l2 fun u u2 h' tk hu hu2 z' TO' st1' st2' hT hsz hk => ?_
    obtain ⟨v, hv, ru⟩ := rv.get hx
    obtain ⟨v2, hv2, ru2⟩ := rv2.get hy
    have eu : v = u := Option.some.inj (hv.symm.trans (by simpa using hu))
    have eu2 : v2 = u2 := Option.some.inj (hv2.symm.trans (by simpa using hu2))
    subst eu eu2
    refine ⟨_, rfl, wpAny_letOwnedTupleGo_zip (s := { s with heap := h', toks := tk }) z' fun h'' z'' sb => ?_⟩
    have hT2 : h''.get? s.heap.objs.size = some { cls := .type "tuple", data := .seq #[v, v2] } := (sb.2 _ (Nat.ne_of_gt hzl)).trans hT
    have new : ObjOk X.prog X.w (upd H s.heap.objs.size (.tup [x, y])) h'' s.heap.objs.size (.tup [x, y]) :=
      ⟨by show 2 ≤ sizeLine; decide, [v, v2], .cons ru (.cons ru2 .nil), ⟨_, hT2, rfl, _, rfl⟩⟩
    have I1 : Inv X pins σ (upd H s.heap.objs.size (.tup [x, y])) { s with heap := h'', toks := tk } :=
      I.turnedNew (t' := tk) (ch := [z, TI, TO, i1, i2]) (fun c o hb q => (sb.2 c (fun q' => hb (by simp [q']))).trans (hk c o (fun q' => hb (by simp [q'])) (fun q' => hb (by simp [q'])) (fun q' => hb (by simp [q'])) (fun q' => hb (by simp [q'])) q)) hf (Nat.le_refl _) new
    refine ⟨.ref s.heap.objs.size, _, I1, rfl, ⟨_, x, y, rfl, I.hok.fresh (Nat.le_refl _), rfl, fun l hl => by rw [seqB_inj I hl hqx]; exact hx, fun l hl => by rw [seqB_inj I hl hqy]; exact hy⟩, ⟨z'', ?_, ⟨v, v2, ?_⟩, ?_, ?_⟩, fun c hcm => ?_⟩
    · exact (sb.2 _ D.TIz).trans (hk _ _ D.TIz D.TITO D.TIi1 D.TIi2 hTI)
    · exact (sb.2 _ D.TOz).trans TO'
    · exact st1'.1.at_ fun o q => (sb.2 _ (Ne.symm D.zi1)).trans q
    · exact st2'.1.at_ fun o q => (sb.2 _ (Ne.symm D.zi2)).trans q
    · have hlt : c < s.heap.objs.size := by
        have e' : c = z ∨ c = TI ∨ c = TO ∨ c = i1 ∨ c = i2 := by simpa using hcm
        rcases e' with q | q | q | q | q
        · rw [q]; exact hzl
        · rw [q]; exact Heap.lt_size hTI
        · rw [q]; exact Heap.lt_size hTO
        · rw [q]; obtain ⟨_, e1, _⟩ := h1.obj; exact Heap.lt_size e1
        · rw [q]; obtain ⟨_, e2, _⟩ := h2.obj; exact Heap.lt_size e2
      rw [upd_ne (Nat.ne_of_lt hlt)]
      exact (hf c hcm).1
  done := by
    intro X hP hw hK hc i pins s σ H E I hf st hg
    subst hP hw hK
    obtain ⟨hz, hTI, ⟨x0, y0, hTO⟩, h1, h2⟩ := st
    obtain ⟨xs, ys, hqx, hqy, hend, le1, le2⟩ := hg
    obtain ⟨its, rv, p, _⟩ := seqB I hqx
    obtain ⟨its2, rv2, p2, _⟩ := seqB I hqy
    have hh : X.A.in1.handled = none := I.ok.hd hc
    have D1 := drawsB (prog := X.prog) (w := X.w) k1 hh i1 a ha its.toArray
    have D2 := drawsB (prog := X.prog) (w := X.w) k2 hh i2 b hb its2.toArray
    have l1 := rv.length
    have l2 := rv2.length
    exact wpAny_pyNext_zipD2_end D D1 D2 hz hTI hTO ⟨h1, p⟩ ⟨h2, p2⟩ (by simp; omega) (by simp; omega) (by simp; omega) fun h' tk hk => ⟨rfl, I.turnedL (t' := tk) (ch := [z, TI, TO, i1, i2]) (fun c o hb q =>
      hk c o (fun q' => hb (by simp [q'])) (fun q' => hb (by simp [q'])) (fun q' => hb (by simp [q'])) (fun q' => hb (by simp [q'])) q) hf⟩
  self := fun A i s Q E st h => wpAny_pyIter_zip st.1 h
def iZipB (K : PySem.W.Frag) (k1 k2 : Bool) (ta : TA) : TI := fun σ H R => ta σ H fun vs H1 => ∃ a b xs ys, vs = [.ref a, .ref b] ∧ SqB k1 K H1 a xs ∧ SqB k2 K H1 b ys ∧ R (ItzB k1 k2 K a b) H1
theorem pi_zipB {X : Cx} (k1 k2 : Bool) {e e2 : Expr} {ta : TA} {p pos tpos : Pos} {elts : List Expr} {kk : Nat} (hg : Gl X "zip") (hm : X.mg "zip" = none) (ha : PA X [e, e2] ta)
    (hs : starEach [e, e2] X.env = (false, eval e X.env) :: starEach [e2] X.env := by rfl) (hpl : (backTo pos (starEach [e2] X.env)).any (·.1) = false := by rfl) :
    PI X (.Tuple elts kk tpos) (.Call (.Name "zip" p) [e, e2] [] pos) (iZipB X.K k1 k2 ta) := by
  refine ⟨fun pins s σ H R I h => ?_⟩
  refine Call_ (ld_blt I hg hm PyProof.Rows.boot_zip (PyProof.Rows.callWith_type1 (thn (ha.run pos pins s σ H _ I h) fun us s1 ⟨vs, H1, I1, r1, q1⟩ => ?_) hs hpl))
  obtain ⟨a, b, xs, ys, ex, hqx, hqy, q⟩ := q1
  subst ex
  cases r1 with
  | cons r rr =>
    cases rr with
    | cons r' rr =>
      cases rr
      cases r
      cases r'
      have fresh5 : ∀ c, c ∈ [s1.heap.objs.size + 4, s1.heap.objs.size + 2, s1.heap.objs.size + 3, s1.heap.objs.size, s1.heap.objs.size + 1] → FpOk X pins H1 c := fun c hcm => by
        have e' : c = s1.heap.objs.size + 4 ∨ c = s1.heap.objs.size + 2 ∨ c = s1.heap.objs.size + 3 ∨ c = s1.heap.objs.size ∨ c = s1.heap.objs.size + 1 := by simpa using hcm
        have hle : s1.heap.objs.size ≤ c := by
          rcases e' with z | z | z | z | z
          · rw [z]; exact Nat.le_add_right _ _
          · rw [z]; exact Nat.le_add_right _ _
          · rw [z]; exact Nat.le_add_right _ _
          · rw [z]; exact Nat.le_refl _
          · rw [z]; exact Nat.le_add_right _ _
        exact I1.fpOk hle (I1.hok.fresh hle)
      obtain ⟨its, rv, p1, _⟩ := seqB I1 hqx
      obtain ⟨its2, rv2, p2, _⟩ := seqB I1 hqy
      have n1 : a ≠ s1.heap.objs.size := Nat.ne_of_lt p1.lt
      have n2 : b ≠ s1.heap.objs.size + 1 := Nat.ne_of_lt (Nat.lt_succ_of_lt p2.lt)
      refine zip_begins2 (beginsB k1 a its.toArray) (beginsB k2 b its2.toArray) p1 p2 fun h' hz hTI hTO h1 h2 hsz hk => wpAny_pyIter_zip hz ?_
      have I2 : Inv X pins σ H1 { s1 with heap := h' } := I1.kept (t' := s1.toks) hk
      exact ⟨s1.heap.objs.size + 4, [s1.heap.objs.size + 4, s1.heap.objs.size + 2, s1.heap.objs.size + 3, s1.heap.objs.size, s1.heap.objs.size + 1], _, _, H1, rfl, I2,
        turn_zipB (zip_sep2 (N := s1.heap.objs.size) (fp1 := [a]) (fp2 := [b]) (fun c hc => by rw [List.mem_singleton] at hc; rw [hc]; exact p1.lt) (fun c hc => by rw [List.mem_singleton] at hc; rw [hc]; exact p2.lt)) n1 n2,
        ⟨hz, hTI, ⟨_, _, hTO⟩, itB_new h1, itB_new h2⟩, fresh5, q⟩
theorem walk_zipB {k1 k2 : Bool} {K : PySem.W.Frag} {a b : Addr} {xs ys : List V} (hl : xs.length = ys.length) : Walk (ItzB k1 k2 K a b) xs.length (fun H => SqB k1 K H a xs ∧ SqB k2 K H b ys) (YPair (fun i => xs[i]?) (fun i => ys[i]?)) := by
  refine ⟨fun i _ hi q => ?_, fun _ q => ⟨xs, ys, q.1, q.2, .inl rfl, Nat.le_refl _, by omega⟩, fun i H v H' _ q y => ?_⟩
  · have h2 : i < ys.length := by omega
    exact ⟨xs, ys, xs[i], ys[i], q.1, q.2, by simp [hi], by simp [h2]⟩
  · obtain ⟨T, x, z, h1, h2, h3, h4, h5⟩ := y
    exact ⟨T, x, z, h1, h2, h3, h4 xs q.1, h5 ys q.2⟩
/-! ### enumerate(tuple) -/
def IteT (K : PySem.W.Frag) (a : Addr) : It :=
  ⟨fun i H => ∃ (xs : List V) (x : V), SqT K H a xs ∧ xs[i]? = some x, fun i H v H' => ∃ T x, v = .ref T ∧ H T = none ∧ H' = upd H T (.tup [.int (i : Nat), x]) ∧ ∀ xs, SqT K H a xs → xs[i]? = some x, fun i H => ∃ xs : List V, SqT K H a xs ∧ xs.length = i⟩
theorem turn_enumT {P : Program} {w : World} {K : PySem.W.Frag} {elts : List Expr} {kk : Nat} {tpos : Pos} (a e it : Addr) :
    Turn P w K (.Tuple elts kk tpos) (IteT K a) [e, it] e (fun i h => (∃ old, IsEnum h e it ((i : Nat) : Int) old) ∧ h.IsTupleIter it a i ∧ e ≠ it ∧ e ≠ a ∧ a ≠ it) where
  mem := by simp
  obj := fun i h st b hb => by
    obtain ⟨⟨old, he⟩, ⟨o, ho, hc, hd⟩, _⟩ := st
    have e' : b = e ∨ b = it := by simpa using hb
    rcases e' with z | z
    · rw [z]; exact ⟨_, he, fun v q => nomatch q⟩
    · rw [z]; exact ⟨o, ho, fun v q => by rw [hd] at q; cases q⟩
  keep := fun i h h' st k => let ⟨⟨old, he⟩, hi, hne⟩ := st; ⟨⟨old, k e (by simp) _ he⟩, hi.at fun o q => k it (by simp) o q, hne⟩
  item := by
    intro X hP hw hK hc i pins s σ H E I hf st hg
    subst hP hw hK
    obtain ⟨⟨old, he⟩, hit, hne, hea, hai⟩ := st
    obtain ⟨xs, x, hq, hx⟩ := hg
    obtain ⟨its, rv, p, hz⟩ := I.tuple hq
    have hh : X.A.in1.handled = none := I.ok.hd hc
    have D := Draws.tuple (prog := X.prog) (w := X.w) hh it a hai its.toArray
    have hel : e < s.heap.objs.size := Heap.lt_size he
    have hil : it < s.heap.objs.size := by obtain ⟨_, q, _⟩ := hit; exact Heap.lt_size q
    have l1 : i < its.toArray.size := by
      have := (List.getElem?_eq_some_iff.mp hx).1
      rw [List.size_toArray, ← rv.length]
      exact this
    refine wpAny_pyNext_enum_itemC D he ⟨hit, p⟩ l1 hne (by simp [hne, hea]) fun u h' tk hu ho st' hT hsz hk => ?_
    obtain ⟨v, hv, ru⟩ := rv.get hx
    have eu : v = u := Option.some.inj (hv.symm.trans (by simpa using hu))
    subst eu
    refine ⟨_, rfl, wpAny_letOwnedTupleGo_enum (s := { s with heap := h', toks := tk + 1 }) ho fun h'' he' sb => ?_⟩
    have hT2 : h''.get? s.heap.objs.size = some { cls := .type "tuple", data := .seq #[.int i tk, v] } := (sb.2 _ (Nat.ne_of_gt hel)).trans hT
    have new : ObjOk X.prog X.w (upd H s.heap.objs.size (.tup [.int (i : Nat), x])) h'' s.heap.objs.size (.tup [.int (i : Nat), x]) :=
      ⟨by show 2 ≤ sizeLine; decide, [.int i tk, v], .cons ⟨_, rfl⟩ (.cons ru .nil), ⟨_, hT2, rfl, _, rfl⟩⟩
    have I1 : Inv X pins σ (upd H s.heap.objs.size (.tup [.int (i : Nat), x])) { s with heap := h'', toks := tk + 1 } :=
      I.turnedNew (ch := [e, it]) (fun b ob hb q => (sb.2 b (fun z => hb (by simp [z]))).trans (hk b ob (fun z => hb (by simp [z])) (fun z => hb (by simp [z])) q)) hf (Nat.le_refl _) new
    refine ⟨.ref s.heap.objs.size, _, I1, rfl, ⟨_, x, rfl, I.hok.fresh (Nat.le_refl _), rfl, fun ys hy => by rw [I.tuple_inj hy hq]; exact hx⟩, ⟨⟨v, ?_⟩, st'.1.at fun o q => (sb.2 it (Ne.symm hne)).trans q, hne, hea, hai⟩, fun b hb => ?_⟩
    · have e1 : ((i + 1 : Nat) : Int) = (i : Int) + 1 := by omega
      rw [e1]; exact he'
    · have hb' : b < s.heap.objs.size := by
        have e' : b = e ∨ b = it := by simpa using hb
        rcases e' with z | z
        · rw [z]; exact hel
        · rw [z]; exact hil
      rw [upd_ne (Nat.ne_of_lt hb')]
      exact (hf b hb).1
  done := by
    intro X hP hw hK hc i pins s σ H E I hf st hg
    subst hP hw hK
    obtain ⟨⟨old, he⟩, hit, hne, hea, hai⟩ := st
    obtain ⟨xs, hq, hx⟩ := hg
    obtain ⟨its, rv, p, hz⟩ := I.tuple hq
    obtain ⟨f0, f1, f2, f3, f4, f5⟩ := hf it (by simp)
    have hh : X.A.in1.handled = none := I.ok.hd hc
    have D := Draws.tuple (prog := X.prog) (w := X.w) hh it a hai its.toArray
    have hl := rv.length
    have ei : i = its.toArray.size := by simp; omega
    exact wpAny_pyNext_enum_endD D he (by rw [← ei]; exact ⟨hit, p⟩) fun h' eb => ⟨rfl, I.turned (t' := s.toks) (fun b o hb q => eb b o hb q) f0 f1 f3 f4 f5⟩
  self := fun A i s Q E st h => let ⟨⟨_, he⟩, _⟩ := st; wpAny_pyIter_enum he h
end K13
namespace K13
open PySem PySem.Spec PyProof.Rows L2
theorem meets_enum1 {v : Value} {o : Obj} {H : Heap → Prop} (B : Begins v o H) :
    Meets (Builtin.«enumerate.__new__» ⟨[.type "enumerate", v], []⟩) (fun _ R s => H s.heap ∧
      R (.ok (.ret (.ref (s.heap.push o).objs.size))) { s with heap := (s.heap.push o).push { cls := .type "enumerate", data := .fields #[.none, .bool false, .ref s.heap.objs.size, rawInt 0, .none, .none] } }) :=
  .of_wp fun prog w A R s h => by
    obtain ⟨hp, g, d, tk, os⟩ := s; obtain ⟨h1, h⟩ := h
    have hsub := sub_enumerate
    have q1 : ∀ {A' : Around} {E : Value → Shared → Prop} {Q : Value → Shared → Prop}, Q (.ref hp.objs.size) ⟨hp.push o, g, d, tk, os⟩ → wpAny (model prog w) A' (pyIter v) Q E ⟨hp, g, d, tk, os⟩ :=
      fun q => B.iter prog w _ _ ⟨hp, g, d, tk, os⟩ _ h1 q
    wp_walk
    refine wpAny_stack_any fun st => wpAny_pure ?_
    split
    · rename_i c _ _ _ _ _
      cases (c == Value.type "enumerate")
      · wp_walk using q1
        exact ⟨_, rfl, h⟩
      · wp_walk using q1
        exact ⟨_, rfl, h⟩
    · wp_walk using q1
      exact ⟨_, rfl, h⟩
section
variable {prog : Program} {w : World} {A : Around} {E : Value → Shared → Prop} {s : Shared}
theorem enum_begins1 {v : Value} {o : Obj} {H : Heap → Prop} {Q : Value → Shared → Prop} (B : Begins v o H) (h1 : H s.heap)
    (h : ∀ h', IsEnum h' (s.heap.objs.size + 1) s.heap.objs.size 0 .none → h'.get? s.heap.objs.size = some o → h'.objs.size = s.heap.objs.size + 2 →
      (∀ b o, s.heap.get? b = some o → h'.get? b = some o) → Q (.ref (s.heap.objs.size + 1)) { s with heap := h' }) :
    wpAny (model prog w) A (call (.type "enumerate") [v]) Q E s := by
  refine callType_new F.called_enumerate (by decide) (F.typeCall_enumerate_1 _) (F.newCall_enumerate_1 _) (fun obj => F.args_object_init_2 obj _) F.entry_enumerate_new
    (meets_enum1 B) ⟨h1, ?_⟩
  have hz : (s.heap.push o).objs.size = s.heap.objs.size + 1 := Heap.size_push ..
  show _ ∧ _
  rw [hz]
  have he : IsEnum ((s.heap.push o).push { cls := .type "enumerate", data := .fields #[.none, .bool false, .ref s.heap.objs.size, rawInt 0, .none, .none] }) (s.heap.objs.size + 1) s.heap.objs.size 0 .none := by
    have := Heap.get?_push_size (s.heap.push o) (o := { cls := .type "enumerate", data := .fields #[.none, .bool false, .ref s.heap.objs.size, rawInt 0, .none, .none] }) rfl
    rw [hz] at this; exact this
  refine ⟨⟨_, he, rfl⟩, h _ he (Heap.get?_push_of_some _ (Heap.get?_push_size _ B.free)) (by rw [Heap.size_push, hz]) fun b o x => Heap.get?_push_of_some _ (Heap.get?_push_of_some _ x)⟩
end
def iEnumT (K : PySem.W.Frag) (ta : TA) : TI := fun σ H R => ta σ H fun vs H1 => ∃ a xs, vs = [.ref a] ∧ SqT K H1 a xs ∧ R (IteT K a) H1
theorem pi_enumT {X : Cx} {e : Expr} {ta : TA} {p pos tpos : Pos} {elts : List Expr} {kk : Nat} (hg : Gl X "enumerate") (hm : X.mg "enumerate" = none) (ha : PA X [e] ta) (hs : starEach [e] X.env = [(false, eval e X.env)] := by rfl) :
    PI X (.Tuple elts kk tpos) (.Call (.Name "enumerate" p) [e] [] pos) (iEnumT X.K ta) := by
  refine ⟨fun pins s σ H R I h => ?_⟩
  refine Call_ (ld_blt I hg hm boot_enumerate (PyProof.Rows.callWith_type1 (thn (ha.run pos pins s σ H _ I h) fun us s1 ⟨vs, H1, I1, r1, q1⟩ => ?_) hs rfl))
  obtain ⟨a, xs, ex, hq, q⟩ := q1
  subst ex
  cases r1 with
  | cons r rr =>
    cases rr
    cases r
    obtain ⟨its, rv, p', hz⟩ := I1.tuple hq
    have hlt : a < s1.heap.objs.size := p'.lt
    refine enum_begins1 (begins_tuple a its.toArray) p' fun h' he hit hsz hk => wpAny_pyIter_enum he ?_
    have I2 : Inv X pins σ H1 { s1 with heap := h' } := I1.kept (t' := s1.toks) hk
    refine ⟨s1.heap.objs.size + 1, [s1.heap.objs.size + 1, s1.heap.objs.size], _, _, H1, rfl, I2, turn_enumT a (s1.heap.objs.size + 1) s1.heap.objs.size, ⟨⟨.none, he⟩, ⟨_, hit, rfl, rfl⟩, Nat.succ_ne_self _, Nat.ne_of_gt (Nat.lt_succ_of_lt hlt), Nat.ne_of_lt hlt⟩, fun b hb => ?_, q⟩
    have e' : b = s1.heap.objs.size + 1 ∨ b = s1.heap.objs.size := by simpa using hb
    have hle : s1.heap.objs.size ≤ b := by
      rcases e' with z | z
      · rw [z]; exact Nat.le_add_right _ _
      · rw [z]; exact Nat.le_refl _
    exact I1.fpOk hle (I1.hok.fresh hle)
theorem walk_enumT {K : PySem.W.Frag} {a : Addr} {xs : List V} : Walk (IteT K a) xs.length (fun H => SqT K H a xs) (YPair (fun i => some (.int (i : Nat))) (fun i => xs[i]?)) := by
  refine ⟨fun i _ hi q => ⟨xs, xs[i], q, by simp [hi]⟩, fun _ q => ⟨xs, q, rfl⟩, fun i H v H' _ q y => ?_⟩
  obtain ⟨T, x, h1, h2, h3, h4⟩ := y
  exact ⟨T, .int (i : Nat), x, h1, h2, h3, rfl, h4 xs q⟩
/-! ### sorted(tuple of ints) -/
section
variable {prog : Program} {w : World} {A : Around} {E : Value → Shared → Prop} {s : Shared}
theorem collect_tup {l : Addr} {vs : List Value} {Q : List Value → Shared → Prop} (hl : s.heap.IsTuple l vs.toArray)
    (h : Q vs { s with heap := (s.heap.push (seqObj "list" #[] 0)).update s.heap.objs.size (Obj.mapSeq (· ++ vs.toArray)) }) (hsz : vs.length ≤ sizeLine) :
    wpAny (model prog w) A (collect (.ref l)) Q E s := by
  obtain ⟨o, ho, hc, n, hd⟩ := id hl
  unfold collect
  refine wpAny_bind (wpAny_runValue (codeAny_builtin entry_proto_collect' ?_))
  show wpAny _ _ (do again (.builtin "list.__iadd__" ⟨[← newList [], .ref l], []⟩)) _ _ s
  refine wpAny_bind (wpAny_newList (wpAny_pure ⟨Code.quiet_builtin _ (by decide +kernel), codeAny_builtin entry_list_iadd' ?_⟩))
  show wpAny _ _ (Builtin.List.listExtendWith (.ref s.heap.objs.size) (.ref l) (.ref s.heap.objs.size)) _ _ { s with heap := s.heap.push (seqObj "list" #[] 0) }
  unfold Builtin.List.listExtendWith
  have ho' : (s.heap.push (seqObj "list" #[] 0)).get? l = some o := Heap.get?_push_of_some _ ho
  refine wpAny_bind (wpAny_typeOf (T := "tuple") ⟨o, ho', hc⟩ ?_)
  have ht : (Value.type "tuple" == Value.type "tuple") = true := by rfl
  rw [if_pos (by rw [ht]; simp)]
  refine wpAny_bind (listItems_at ho' hd ?_)
  refine wpAny_bind (listItems_at (xs := #[]) (n := 0) (Heap.get?_push_size _ rfl) rfl ?_)
  rw [if_neg (by simp)]
  refine wpAny_bind (listUpdate_at (xs := #[]) (n := 0) (Heap.get?_push_size _ rfl) rfl ?_ (Nat.zero_le _) (by show (#[] ++ vs.toArray).size ≤ sizeLine + 1; simp only [Array.size_append, List.size_toArray, List.length_nil]; omega))
  refine wpAny_pure ?_
  show wpAny (model prog w) A (do
      let o ← load s.heap.objs.size
      match o.data with
      | .seq xs _ => pure xs.toList
      | _ => unsupported "internal:collect") Q E { s with heap := (s.heap.push (seqObj "list" #[] 0)).update s.heap.objs.size (Obj.mapSeq (· ++ vs.toArray)) }
  refine wpAny_bind (wpAny_load (get?_update_seq (Heap.get?_push_size _ rfl) _) ?_)
  show wpAny _ _ (pure ((#[] : Array Value) ++ vs.toArray).toList) Q E _
  rw [show ((#[] : Array Value) ++ vs.toArray).toList = vs by simp]
  exact wpAny_pure h
theorem sorted_ordT {l : Addr} {vs : List Value} {ltv : Value → Value → Bool} {Q : Value → Shared → Prop} (O : SrtO.Swo ltv) (hl : s.heap.IsTuple l vs.toArray) (hz : vs.length ≤ sizeLine)
    (hS : 2 ≤ vs.length → ∀ (h₁ : Heap) (a : Addr), h₁.get? a = some (seqObj "list" vs.toArray 0) → (∀ b o, s.heap.get? b = some o → b ≠ a ∧ h₁.get? b = some o) → SrtO.SortableO prog w A.in1.in1 { s with heap := h₁ } a vs ltv)
    (h : ∀ out : List Value, SrtO.Srtd ltv out → SrtO.Stb ltv out vs → Q (.ref (s.heap.objs.size + 1)) { s with heap := sortedAll s.heap vs out.toArray }) :
    wpAny (model prog w) A (call (.builtin "sorted") [.ref l]) Q E s := by
  refine Calls.call_function_entry kind_sorted plain_sorted entry_sorted (args_sorted1 _) ?_
  unfold Builtin.«sorted»
  refine wpAny_bind (m := checkCount "sorted" 1 1 _) (wpAny_pure ?_)
  refine wpAny_bind (collect_tup hl ?_ hz)
  refine wpAny_bind (wpAny_newList ?_ hz)
  have hsz : ((s.heap.push (seqObj "list" #[] 0)).update s.heap.objs.size (Obj.mapSeq (· ++ vs.toArray))).objs.size = s.heap.objs.size + 1 := by
    rw [Heap.size_update, size_push']
  have hoL : (((s.heap.push (seqObj "list" #[] 0)).update s.heap.objs.size (Obj.mapSeq (· ++ vs.toArray))).push (seqObj "list" vs.toArray 0)).get? (s.heap.objs.size + 1) = some (seqObj "list" vs.toArray 0) := by
    rw [← hsz]; exact Heap.get?_push_size _ rfl
  have keep : ∀ b o, s.heap.get? b = some o → b ≠ s.heap.objs.size + 1 ∧ (((s.heap.push (seqObj "list" #[] 0)).update s.heap.objs.size (Obj.mapSeq (· ++ vs.toArray))).push (seqObj "list" vs.toArray 0)).get? b = some o := fun b o q => by
    have hlt : b < s.heap.objs.size := Heap.lt_size q
    refine ⟨Nat.ne_of_lt (Nat.lt_succ_of_lt hlt), Heap.get?_push_of_some _ ?_⟩
    rw [Heap.get?_update_ne _ _ _ _ (Nat.ne_of_lt hlt)]
    exact Heap.get?_push_of_some _ q
  show wpAny _ _ _ _ _ { s with heap := ((s.heap.push (seqObj "list" #[] 0)).update s.heap.objs.size (Obj.mapSeq (· ++ vs.toArray))).push (seqObj "list" vs.toArray 0) }
  rw [hsz]
  refine wpAny_bind (wpAny_holding (wpAny_call_entry slot_list_sort ⟨_, hoL, rfl⟩ entry_list_sort (SrtO.list_sort_ord O hoL hz (fun h2 => hS h2 _ _ hoL keep) fun out hs hb => ⟨_, rfl, ?_⟩) (args_list_sort _)))
  exact wpAny_pure ⟨_, rfl, h out hs hb⟩
end
/-- sorted(xs), xs a list (true) or a tuple (false) of ints -/
def rSortedB (k : Bool) (K : PySem.W.Frag) : List V → Hp → VK → Prop := fun vs H Q => ∃ (a : Addr) (ns : List Int), vs = [V.ref a] ∧ SqB k K H a (ns.map V.int) ∧
  ∀ (ns' : List Int) (p : Addr), ns'.Perm ns → ns'.Pairwise (· ≤ ·) → H p = none → Q (.ref p) (upd H p (.lst (ns'.map V.int)))
theorem cr_sortedB {X : Cx} (k : Bool) : CallR X (.builtin "sorted") (rSortedB k X.K) := by
  cases k with
  | true => exact cr_sortedI
  | false =>
    intro pins s σ H vs us Q I r h
    obtain ⟨a, ns, rfl, hs, q⟩ := h
    obtain ⟨its, rv, hl, hz⟩ := I.tuple hs
    rw [Vals.ref1 r]
    have hi := rv.ints
    refine sorted_ordT SrtO.swo_int hl (by rw [← rv.length]; exact hz) (fun h2 h₁ a' _ _ => SrtO.ints_sortable hi h2) fun out h1 h2 => ?_
    obtain ⟨k1, k2, k3⟩ := SrtO.ints_out hi h1 h2
    obtain ⟨ep, he'⟩ := PyProof.Rows.sortedAll_at s.heap its out.toArray
    have hlen : ((out.map SrtO.iv).map V.int).length ≤ sizeLine := by
      rw [List.length_map, k2.length_eq]
      rw [List.length_map] at hz
      exact hz
    exact ⟨.ref _, upd H (s.heap.objs.size + 1) (.lst ((out.map SrtO.iv).map V.int)), I.laid (t' := s.toks) (fun _ _ => PyProof.Rows.sortedAll_old) (Nat.le_succ _) ⟨hlen, out, ep, vals_of_ints k1, he'⟩, rfl, q _ _ k2 k3 (I.hok.fresh (Nat.le_succ _))⟩
end K13
namespace K13
open PySem PySem.Spec PyProof.Rows L2 HT
/-! ### t[::-1] -/
theorem fm_congr {α β : Type} {f g : α → Option β} : ∀ {l : List α}, (∀ a ∈ l, f a = g a) → l.filterMap f = l.filterMap g
  | [], _ => rfl
  | a :: l, h => by
    rw [List.filterMap_cons, List.filterMap_cons, h a List.mem_cons_self, fm_congr fun b hb => h b (List.mem_cons_of_mem _ hb)]
theorem pickBack (xs : Array Value) : ((List.range xs.size).filterMap fun (m : Nat) => xs[(((xs.size : Int) - 1) + (m : Int) * (-1)).toNat]?).toArray = xs.toList.reverse.toArray := by
  have e : (List.range xs.size).filterMap (fun (m : Nat) => xs[(((xs.size : Int) - 1) + (m : Int) * (-1)).toNat]?) = ((List.range xs.size).map fun k => xs.size - 1 - k).filterMap (xs[·]?) := by
    rw [List.filterMap_map]
    refine fm_congr fun m hm => ?_
    have := List.mem_range.mp hm
    show xs[_]? = xs[xs.size - 1 - m]?
    congr 1
    omega
  rw [e, PySem.W.krv_range, List.filterMap_reverse, PySem.W.krv_all]
section
variable {prog : Program} {w : World} {A : Around} {E : Value → Shared → Prop} {s : Shared}
theorem sliceBack {sl : Addr} {vs : Value} {n : Nat} {Q : Int × Int × Nat → Shared → Prop} (hs : s.heap.IsSliceOf sl .none .none vs) (ps : IsPart vs (some (-1)))
    (h : Q (((n : Int) - 1), -1, n) s) : wpAny (model prog w) A (Builtin.Slice.sliceApplied (.ref sl) (pure (n : Int))) Q E s := by
  obtain ⟨os, hos, hcs, hds⟩ := id hs
  unfold Builtin.Slice.sliceApplied Builtin.Slice.sliceFields
  refine wpAny_bind (wpAny_bind (wpAny_field hos hds (x := .none) rfl (wpAny_bind (wpAny_field hos hds (x := .none) rfl (wpAny_bind (wpAny_field hos hds (x := vs) rfl (wpAny_pure ?_)))))))
  refine wpAny_bind (slicePart_ ps ?_)
  show wpAny _ _ (if ((-1 : Int) == 0) = true then _ else _) _ _ s
  rw [if_neg (by decide)]
  refine wpAny_bind (slicePart_ .none (wpAny_bind (slicePart_ .none (wpAny_bind (wpAny_pure ?_)))))
  show wpAny _ _ (pure (((n : Int) - 1), (-1 : Int), Builtin.Slice.slicePlaces ((n : Int) - 1) (-1) (-1))) _ _ s
  have e : Builtin.Slice.slicePlaces ((n : Int) - 1) (-1) (-1) = n := by
    unfold Builtin.Slice.slicePlaces
    rw [if_neg (by decide)]
    by_cases h : (n : Int) - 1 > -1
    · rw [if_pos h]
      have : ((n : Int) - 1 - -1 - 1) / (- -1) = (n : Int) - 1 := by
        rw [show (- -1 : Int) = 1 by decide, Int.ediv_one]
        omega
      rw [this]
      omega
    · rw [if_neg h]
      omega
  rw [e]
  exact wpAny_pure h
theorem getItem_tuple_back {t sl : Addr} {items : Array Value} {vs : Value} {Q : Value → Shared → Prop} (ht : IsTup s.heap t items) (hs : s.heap.IsSliceOf sl .none .none vs) (ps : IsPart vs (some (-1)))
    (h : Q (.ref s.heap.objs.size) { s with heap := s.heap.push { cls := .type "tuple", data := .seq items.toList.reverse.toArray } })
    (hsz : items.size ≤ sizeLine) : wpAny (model prog w) A (getItem (.ref t) (.ref sl)) Q E s := by
  have htake : sizeOk (.seq items.toList.reverse.toArray) := by
    show items.toList.reverse.toArray.size ≤ sizeLine
    rw [List.size_toArray, List.length_reverse, Array.length_toList]
    exact hsz
  obtain ⟨os, hos, hcs, hds⟩ := id hs
  have hTs : s.TypeIs (.ref sl) "slice" := ⟨os, hos, hcs⟩
  unfold getItem
  try with_reducible refine wpAny_holding ?_
  first | refine wpAny_bind (wpAny_pure ?_) | skip
  refine wpAny_bind (wpAny_sequenceKey ht.typeIs (by decide) ?_)
  refine wpAny_bind (wpAny_callSpecial?_slot (name := Str.ofString "__getitem__") ht.typeIs PyProof.Rows.slot_tuple_getitem
    (wpAny_call_entry PyProof.Rows.slot_tuple_getitem ht.typeIs entry_tuple_getitem ?_ (args_tuple_getitem _ _)))
  show wpAny _ _ (Builtin.Tuple.tupleItemsOf (.ref t) >>= _) _ _ s
  refine wpAny_bind (tupleItemsOf_ ht ?_)
  refine wpAny_bind (wpAny_typeOf hTs ?_)
  rw [if_pos (by decide)]
  refine wpAny_bind (sliceBack hs ps ?_)
  have hno : ¬ ((((items.size : Int) - 1) == 0 && (-1 : Int) == 1 && items.size == items.size) = true) := by
    intro q
    rw [Bool.and_eq_true, Bool.and_eq_true] at q
    exact absurd q.1.2 (by decide)
  show wpAny _ _ (if (((items.size : Int) - 1) == 0 && (-1 : Int) == 1 && items.size == items.size) = true then _ else _) _ _ s
  rw [if_neg hno, pickBack]
  first
    | exact wpAny_bind (m := Builtin.Tuple.tupleExact _) (wpAny_newObj_type (wpAny_pure ⟨_, rfl, wpAny_pure h⟩) htake)
    | exact wpAny_bind (m := Builtin.Tuple.tupleExact _) (wpAny_newObj_type (wpAny_bind (wpAny_pure (wpAny_pure ⟨_, rfl, wpAny_pure h⟩))) htake)
    | exact wpAny_bind (wpAny_bind (m := Builtin.Tuple.tupleExact _) (wpAny_newObj_type (wpAny_pure (wpAny_pure ⟨_, rfl, wpAny_pure h⟩)) htake))
    | exact wpAny_bind (wpAny_bind (m := Builtin.Tuple.tupleExact _) (wpAny_newObj_type (wpAny_pure ⟨_, rfl, wpAny_pure h⟩) htake))
end
def tRevT (K : PySem.W.Frag) (te : TE) : TE := fun σ H Q => te σ H fun x H1 => ∃ a xs, x = .ref a ∧ SqT K H1 a xs ∧ ∀ p, H1 p = none → Q (.ref p) (upd H1 p (.tup xs.reverse))
theorem pe_revT {X : Cx} {e : Expr} {te : TE} {k : Nat} {p1 p2 p3 pos : Pos} (he : PE X e te) : PE X (.Subscript e (.Slice none none (some (.UnaryOp .USub (.Constant (.int 1) k p1) p2)) p3) pos) (tRevT X.K te) := by
  refine ⟨fun pins s σ H Q I h => ?_⟩
  refine Subscript_ (thn (he.run pins s σ H _ I h) fun v s1 ⟨x, H1, I1, r1, q1⟩ => ?_)
  obtain ⟨a, xs, ex, hx, q⟩ := q1
  subst ex
  cases r1
  have hst : PO X (some (.UnaryOp .USub (.Constant (.int 1) k p1) p2)) (tPart (tUn (rU fun i => .int (-i)) (tC (.int 1)))) := po_some (pe_un un_neg pe_int)
  refine wpAny_Slice (thn (po_none.run pins s1 σ H1 (fun o H2 => o = none ∧ H2 = H1) I1 ⟨rfl, rfl⟩) fun vl s2 ⟨l, H2, I2, pl, el, e2⟩ => ?_)
  subst el e2
  refine thn (po_none.run pins s2 σ H2 (fun o H3 => o = none ∧ H3 = H2) I2 ⟨rfl, rfl⟩) fun vu s3 ⟨u, H3, I3, pu, eu, e3⟩ => ?_
  subst eu e3
  refine thn (hst.run pins s3 σ H3 (fun o H4 => o = some (-1) ∧ H4 = H3) I3 ⟨1, rfl, -1, rfl, rfl, rfl⟩) fun vs s4 ⟨o, H4, I4, ps, eo, e4⟩ => ?_
  subst eo e4
  have I5 : Inv X pins σ H4 { s4 with heap := s4.heap.push { cls := .type "slice", data := .fields #[vl, vu, vs] } } := I4.kept (t' := s4.toks) fun b ob q => Heap.get?_push_of_some _ q
  obtain ⟨its, r, ht, hz⟩ := I5.tuple hx
  have hlen := r.length
  show wpAny (model X.prog X.w) X.A (subscriptTail e (.Slice none none (some (.UnaryOp .USub (.Constant (.int 1) k p1) p2)) p3) (.ref a) (.ref s4.heap.objs.size)) (EP X pins σ Q) X.xe { s4 with heap := s4.heap.push { cls := .type "slice", data := .fields #[vl, vu, vs] } }
  refine tail_any (ops := [.ref a, .ref s4.heap.objs.size]) ht.typeIs (PyProof.Rows.slot_tuple_getitem.lookup) ?_ (by with_unfolding_all rfl)
  cases pl
  cases pu
  refine getItem_tuple_back ht (Heap.IsSliceOf.new _ .none .none vs) ps ?_ (by rw [List.size_toArray]; omega)
  refine ⟨.ref _, _, I5.laid (t' := s4.toks) (o := .tup xs.reverse) (fun b ob q => Heap.get?_push_of_some _ q) (Nat.le_refl _) ?_, rfl, q _ (I5.hok.fresh (Nat.le_refl _))⟩
  exact ⟨by rw [List.length_reverse]; exact hz, its.reverse, r.reverse, IsTup.new _ _⟩
/-! ### t * k, any small k -/
theorem tuple_mul1 (l : Addr) (items : Array Value) (n : Nat) (dd : Option Addr) (sl : Array (Option Value)) (x : Int) (u : Tok) (c0 : (decide (x < -(2 ^ 63)) || decide (x ≥ 2 ^ 63)) = false) (c1 : (items.isEmpty || x == 1) = true) :
    Meets (Builtin.«tuple.__mul__» ⟨[.ref l, .int x u], []⟩) (fun _ R s => s.heap.get? l = some { cls := .type "tuple", dict := dd, data := .seq items n, slots := sl } ∧
      R (.ok (.ret (Value.ref l))) s) :=
  .of_wp fun prog w A R s h => by
    obtain ⟨hp, g, d, tk, os⟩ := s
    obtain ⟨hl, h⟩ := h
    have f1 := AutoSeq1.idx_int
    wp_walk using wpAny_loadPart' hl
    repeat (first
      | (refine wpAny_ite_false (decide_eq_false (by rw [c0]; exact Bool.false_ne_true)) ?_; wp_walk using wpAny_loadPart' hl)
      | (refine wpAny_ite_true (decide_eq_true c1) ?_; wp_walk using wpAny_loadPart' hl))
    exact ⟨_, rfl, h⟩
theorem tuple_mul0 (l : Addr) (items : Array Value) (n : Nat) (dd : Option Addr) (sl : Array (Option Value)) (x : Int) (u : Tok) (c0 : (decide (x < -(2 ^ 63)) || decide (x ≥ 2 ^ 63)) = false) (c1 : (items.isEmpty || x == 1) = false) (c2 : (decide (x ≤ 0) || items.isEmpty) = true) :
    Meets (Builtin.«tuple.__mul__» ⟨[.ref l, .int x u], []⟩) (fun _ R s => s.heap.get? l = some { cls := .type "tuple", dict := dd, data := .seq items n, slots := sl } ∧
      R (.ok (.ret (Value.ref s.heap.objs.size))) { s with heap := s.heap.push { cls := Value.type "tuple", data := Data.seq #[] }, toks := s.toks }) :=
  .of_wp fun prog w A R s h => by
    obtain ⟨hp, g, d, tk, os⟩ := s
    obtain ⟨hl, h⟩ := h
    have f1 := AutoSeq1.idx_int
    wp_walk using wpAny_loadPart' hl
    repeat (first
      | (refine wpAny_ite_false (decide_eq_false (by rw [c0]; exact Bool.false_ne_true)) ?_; wp_walk using wpAny_loadPart' hl)
      | (refine wpAny_ite_false (decide_eq_false (by rw [c1]; exact Bool.false_ne_true)) ?_; wp_walk using wpAny_loadPart' hl)
      | (refine wpAny_ite_true (decide_eq_true c2) ?_; wp_walk using wpAny_loadPart' hl))
    exact ⟨_, rfl, h⟩
/-- t * k: t not empty, k from 0 to 1000: itself for 1 -/
def rRepA (K : PySem.W.Frag) : R2 := fun x y H Q => ∃ l k xs, x = .ref l ∧ y = .int k ∧ SqT K H l xs ∧ xs ≠ [] ∧ 0 ≤ k ∧ k ≤ 1000 ∧ xs.length ≤ 1000 ∧
  (k = 1 → Q (.ref l) H) ∧ (k ≠ 1 → ∀ p, H p = none → Q (.ref p) (upd H p (.tup (List.replicate k.toNat xs).flatten)))
theorem op_repA {X : Cx} : OpR X (binaryOp .Mult) (rRepA X.K) := by
  intro pins s σ H x y v u Q I rx ry h
  obtain ⟨l, k, xs, rfl, rfl, hT, hne, h1, h2, hz, q1, q2⟩ := h
  by_cases hk : 2 ≤ k
  · exact op_repT pins s σ H _ _ v u Q I rx ry ⟨l, k, xs, rfl, rfl, hT, hne, hk, h2, hz, q2 (by omega)⟩
  cases rx
  obtain ⟨t, rfl⟩ := ry
  obtain ⟨its, r, ⟨⟨cls, dd, data, sl⟩, ho, hc, n, hd⟩, hs⟩ := I.tuple hT
  simp only at hc hd
  subst hc hd
  have hle : its.length = xs.length := r.length.symm
  have hn : its ≠ [] := fun e => hne (by
    rw [e] at hle
    exact List.eq_nil_of_length_eq_zero hle.symm)
  have hi : its.toArray.isEmpty = false := by
    cases its with
    | nil => exact absurd rfl hn
    | cons a b => rfl
  have c0 : (decide (k < -(2 ^ 63)) || decide (k ≥ 2 ^ 63)) = false := by
    rw [decide_eq_false (by omega), decide_eq_false (by omega)] <;> rfl
  by_cases hk1 : k = 1
  · subst hk1
    exact wpAny_binaryOp_repeat_ref (T := "tuple") (U := "int") (by decide) ⟨_, ho, rfl⟩ (fun s' => typeIs_int s' 1 t) noFill_tuple_mul F.fills_int_mul F.slot_int_rmul repeat_tuple F.slot_int_index.lookup
      (call_meets F.slot_int_rmul (typeIs_int s 1 t) F.entry_int_rmul (F.args_int_rmul_2 _ _) (int_rmul_tuple 1 t l its.toArray n dd sl)
        ⟨ho, rfl, ⟨_, ho, rfl⟩, call_meets F.slot_tuple_mul ⟨_, ho, rfl⟩ F.entry_tuple_mul (F.args_tuple_mul_2 _ _) (tuple_mul1 l its.toArray n dd sl 1 t c0 (by rw [hi]; rfl)) ⟨ho, ⟨.ref l, H, I, rfl, q1 rfl⟩⟩⟩)
  · have hk0 : k = 0 := by omega
    subst hk0
    refine wpAny_binaryOp_repeat_ref (T := "tuple") (U := "int") (by decide) ⟨_, ho, rfl⟩ (fun s' => typeIs_int s' 0 t) noFill_tuple_mul F.fills_int_mul F.slot_int_rmul repeat_tuple F.slot_int_index.lookup
      (call_meets F.slot_int_rmul (typeIs_int s 0 t) F.entry_int_rmul (F.args_int_rmul_2 _ _) (int_rmul_tuple 0 t l its.toArray n dd sl)
        ⟨ho, rfl, ⟨_, ho, rfl⟩, call_meets F.slot_tuple_mul ⟨_, ho, rfl⟩ F.entry_tuple_mul (F.args_tuple_mul_2 _ _) (tuple_mul0 l its.toArray n dd sl 0 t c0 (by rw [hi]; rfl) rfl) ⟨ho, ?_⟩⟩)
    refine ⟨.ref s.heap.objs.size, _, I.laid (t' := s.toks) (o := .tup (List.replicate (0 : Int).toNat xs).flatten) (fun b ob q => Heap.get?_push_of_some _ q) (Nat.le_refl _) ?_, rfl, q2 hk1 _ (I.hok.fresh (Nat.le_refl _))⟩
    exact ⟨Nat.zero_le _, [], .nil, IsTup.new _ _⟩
end K13
/-! A lambda of two parameters as a value, called by the def that got it. -/
namespace K13
open PySem PySem.Spec PyProof.Rows L2 LamX
/-- what a lambda of two ints gives -/
def LamSem (P : Program) (w : World) (q : Str) (params : Arguments) (body : Expr) (scope : Scope) (stay : Int → Int → Bool) : Prop :=
  ∀ (A : Around) (E : Value → Shared → Prop) (s : Shared) (f c' : Addr) (cl : List (Str × Addr)) (pm ctv : Value) (x y : Int) (t u : Tok) (Q : Value → Shared → Prop), A.depth < recursionLimit → s.heap.NoLimit →
    s.heap.get? f = some (PySem.W.kla_obj "<lambda>" q params body scope cl pm c' ctv) → s.heap.CodeRec (.ref c') q → (∀ s', Keeps s s' → Q (.bool (stay x y)) s') → wpAny (model P w) A (call (.ref f) [.int x t, .int y u]) Q E s
/-- such a lambda stands at f, its code object at c' -/
def LamO (P : Program) (w : World) (stay : Int → Int → Bool) (q : Str) (c' f : Addr) : HO := .ext fun h => ∃ (params : Arguments) (body : Expr) (scope : Scope) (cl : List (Str × Addr)) (pm ctv : Value),
  h.get? f = some (PySem.W.kla_obj "<lambda>" q params body scope cl pm c' ctv) ∧ LamSem P w q params body scope stay
section
variable {X : Cx} {pins : List (Addr × Obj)} {σ : L2.St} {H : Hp} {s : Shared}
/-- an object of ours that stands is tracked from now on -/
theorem inv_track {f : Addr} {o : HO} (I : Inv X pins σ H s) (hf : FpOk X pins H f) (new : ObjOk X.prog X.w (upd H f o) s.heap f o) : Inv X pins σ (upd H f o) s := by
  have J := I.step (h' := s.heap) (H' := upd H f o) (g' := s.gens) (t' := s.toks) (d' := s.drawn) (ch := [f])
    (fun b hb => by
      have e : b = f := by simpa using hb
      subst e
      exact ⟨hf.2.2.2.1, hf.2.1, hf.2.2.2.2.1, hf.2.2.2.2.2⟩)
    (fun b o _ _ _ e _ => e) (fun b o _ _ _ e _ => ⟨o.slots, e⟩) (fun b o' hb _ n => by rw [upd_ne (by simpa using hb)]; exact n) (fun b o' _ e => ⟨o', e⟩)
    (fun b xs e => by rw [upd_ne (ne_of_none e hf.1)]; exact e) (fun b o' u e => by rw [upd_ne (ne_of_none e hf.1)]; exact e) (fun b ps e => ⟨#[], by rw [upd_ne (ne_of_none e hf.1), e]; simp⟩) (fun m hm => hm)
    (fun b u e => by
      by_cases hb : b = f
      · subst hb
        rw [upd_same] at e
        cases e
        exact new
      · rw [upd_ne hb] at e
        exact (I.hok b u e).stay (fun c v _ q => q) (fun c q => by rw [upd_ne (ne_of_none q hf.1)]; exact q) fun c xs q => by rw [upd_ne (ne_of_none q hf.1)]; exact q) I.bare
  exact J
theorem lam_make3 {c P : Addr} {params : Arguments} {body : Expr} {scope : Scope} {pos : Pos} {E : Value → Shared → Prop} {Q : Value → Shared → Prop} (I : Inv X pins σ H s) (TB : TabB X.base X.mg c P) (hcode : X.env.code = .ref c)
    (hT : TabS H P (X.env.qual ++ "<lambda>")) (hdef : defaultsOf params X.env = ([], [])) (hfree : ∀ y ∈ scope.names, y.2 = .free → ∃ c, X.env.cells.lookup y.1 = some c)
    (h : ∀ (f c' : Addr) (pm ctv : Value) (H1 : Hp) (s' : Shared), Inv X pins σ H1 s' → (∀ b o, b ≠ P → H b = some o → H1 b = some o) → TabS H1 P (X.env.qual ++ "<lambda>") →
      s'.heap.get? f = some (PySem.W.kla_obj "<lambda>" (X.env.qual ++ "<lambda>") params body scope (cloFrom X.env.cells scope.names []) pm c' ctv) → FpOk X pins H1 f → H1 c' = some (CodeO c' (X.env.qual ++ "<lambda>")) → Q (.ref f) s') :
    wpAny (model X.prog X.w) X.A (eval (.Lambda params body scope pos) X.env) Q E s := by
  obtain ⟨ps, hP, ht, ha⟩ := hT
  refine PySem.W.kla_eval hdef ?_
  have bP : s.heap.BuiltinsAt X.mg P := TB.bm.keeps I.bk
  have hP' : s.heap.get? P = some { cls := .none, data := .fields ps } := I.hok P _ hP
  cases hc : codeAmong pos ps.toList with
  | none =>
    refine PySem.W.kla_makeFunction (mg := X.mg) (c := c) (P := P) (ps := ps) (closure_ok hfree) I.ok.glob (I.mod.glob.keeps I.bk) hcode (TB.code.keeps I.bk) hP' ht hc TB.gP bP fun c' ctv h' tk hx hge hlt hrec htb => ?_
    obtain ⟨c2, oc, vs, t, e2, hoc, hd, hv⟩ := hrec
    cases e2
    have hsz : s.heap.objs.size ≤ h'.objs.size := Nat.le_trans hge (Nat.le_of_lt hlt)
    have nC : H c' = none := I.hok.fresh hge
    have I1 := inv_table (t' := tk) (more := #[rawInt pos.line, rawInt pos.col, .ref c']) (h' := h'.push (PySem.W.kla_obj "<lambda>" (X.env.qual ++ "<lambda>") params body scope (cloFrom X.env.cells scope.names []) ((X.mg "__name__").getD .none) c' ctv)) I hP
      (fun b o hb e => Heap.get?_push_of_some _ (hx b o hb e)) (Heap.get?_push_of_some _ htb) hge ⟨oc, vs, t, Heap.get?_push_of_some _ hoc, hd, hv⟩
    have hE : ∀ b o, b ≠ P → H b = some o → (upd (upd H P (.tbl (ps ++ #[rawInt pos.line, rawInt pos.col, .ref c']))) c' (CodeO c' (X.env.qual ++ "<lambda>"))) b = some o := fun b o n e => by
      rw [upd_ne (ne_of_none e nC), upd_ne n]
      exact e
    have eL : (ps ++ #[rawInt pos.line, rawInt pos.col, .ref c']).toList = ps.toList ++ [rawInt pos.line, rawInt pos.col, .ref c'] := by simp
    have hN : upd (upd H P (.tbl (ps ++ #[rawInt pos.line, rawInt pos.col, .ref c']))) c' (CodeO c' (X.env.qual ++ "<lambda>")) h'.objs.size = none := by
      have n1 : h'.objs.size ≠ c' := Nat.ne_of_gt hlt
      have n2 : h'.objs.size ≠ P := Nat.ne_of_gt (Nat.lt_of_lt_of_le (Heap.lt_size hP') hsz)
      rw [upd_ne n1, upd_ne n2]
      exact I.hok.fresh hsz
    refine h h'.objs.size c' ((X.mg "__name__").getD .none) ctv _ _ I1 hE ?_ (Heap.get?_push_size _ rfl) (I.fpOk hsz hN) upd_same
    refine ⟨_, by rw [upd_ne (ne_of_none hP nC), upd_same], by rw [eL]; exact PySem.TriplesOk_snoc _ _ _ _ ht, fun p' cv hcv => ?_⟩
    rw [eL] at hcv
    rcases among_app _ ht hcv with z | z
    · obtain ⟨c0, e1, e2⟩ := ha p' cv z
      exact ⟨c0, e1, hE _ _ (fun q => by rw [q, hP] at e2; exact codeO_ne ps (Option.some.inj e2).symm) e2⟩
    · exact ⟨c', z, upd_same⟩
  | some cv =>
    obtain ⟨c', e, hco⟩ := ha pos cv hc
    subst e
    refine PySem.W.kla_makeFunctionHit (mg := X.mg) (c := c) (P := P) (ps := ps) (closure_ok hfree) I.ok.glob (I.mod.glob.keeps I.bk) hcode (TB.code.keeps I.bk) hP' ht hc bP fun ctv h' tk hx hsz => ?_
    have I1 : Inv X pins σ H { s with heap := h'.push (PySem.W.kla_obj "<lambda>" (X.env.qual ++ "<lambda>") params body scope (cloFrom X.env.cells scope.names []) ((X.mg "__name__").getD .none) c' ctv), toks := tk } := I.kept fun b o e => Heap.get?_push_of_some _ (hx b o e)
    exact h h'.objs.size c' ((X.mg "__name__").getD .none) ctv H _ I1 (fun _ _ _ e => e) ⟨ps, hP, ht, ha⟩ (Heap.get?_push_size _ rfl) (I.fpOk hsz (I.hok.fresh hsz)) hco
/-- lambda old, new: .. -/
def tLam2 (P : Program) (w : World) (stay : Int → Int → Bool) (Pt : Addr) (q : Str) : TE := fun σ H Q => TabS H Pt q ∧ ∀ H1 f c', (∀ b o, b ≠ Pt → H b = some o → H1 b = some o) → TabS H1 Pt q → H1 f = none → H1 c' = some (CodeO c' q) → Q (.ref f) (upd H1 f (LamO P w stay q c' f))
theorem pe_lam2 {stay : Int → Int → Bool} {c P : Addr} {params : Arguments} {body : Expr} {scope : Scope} {pos : Pos} (TB : TabB X.base X.mg c P) (hcode : X.env.code = .ref c)
    (S : LamSem X.prog X.w (X.env.qual ++ "<lambda>") params body scope stay) (hfree : ∀ y ∈ scope.names, y.2 = .free → ∃ c, X.env.cells.lookup y.1 = some c) (hdef : defaultsOf params X.env = ([], []) := by rfl) :
    PE X (.Lambda params body scope pos) (tLam2 X.prog X.w stay P (X.env.qual ++ "<lambda>")) := by
  refine ⟨fun pins s σ H Q I h => ?_⟩
  obtain ⟨hT, h⟩ := h
  refine lam_make3 I TB hcode hT hdef hfree fun f c' pm ctv H1 s' I1 eN T1 hf hfp hco => ?_
  have I2 := inv_track (o := LamO X.prog X.w stay (X.env.qual ++ "<lambda>") c' f) I1 hfp ⟨⟨params, body, scope, _, pm, ctv, hf, S⟩, ⟨_, hf⟩, fun h1 h2 ⟨a, b, d, e, g, i, k, l⟩ st => ⟨a, b, d, e, g, i, st _ k, l⟩⟩
  exact ⟨.ref f, _, I2, rfl, h H1 f c' eN T1 hfp.1 hco⟩
/-- x(e1, e2), x a local that holds such a lambda -/
def tActL (P : Program) (w : World) (i : Nat) (t : TA) : TE := fun σ H Q => ∃ (f : Addr) (stay : Int → Int → Bool) (q : Str) (c' : Addr), σ[i]? = some (some (.ref f)) ∧ H f = some (LamO P w stay q c' f) ∧ t σ H fun vs H1 => ∃ (x y : Int), vs = [.int x, .int y] ∧ H1 f = some (LamO P w stay q c' f) ∧ H1 c' = some (CodeO c' q) ∧ Q (.bl (stay x y)) H1
theorem pe_actL {k i : Nat} {x : Str} {p pos : Pos} {e : Expr} {es : List Expr} {t : TA} (hr : Room k X.A) (hN : X.N[i]? = some x) (hv : Vis X.env.scope x) (ha : PA X (e :: es) t)
    (hdb : (x == ("__debug__" : Str)) = false := by decide) (hcd : (x == ("__classdict__" : Str)) = false := by decide)
    (he : starEach (e :: es) X.env = (false, eval e X.env) :: starEach es X.env := by rfl) (hpl : (backTo pos (starEach es X.env)).any (·.1) = false := by rfl) : PE X (.Call (.Name x p) (e :: es) [] pos) (tActL X.prog X.w i t) := by
  refine ⟨fun pins s σ H Q I h => ?_⟩
  obtain ⟨f, stay, qq, c', hs, hL0, ht⟩ := h
  refine wpAny_Call_Name_kw (thn ((pe_var (pos := p) hN hv hdb hcd).run pins s σ H (fun v H1 => v = .ref f ∧ H1 = H) I ⟨.ref f, hs, rfl, rfl⟩) fun u s1 ⟨v, H1, I1, r1, q1⟩ => ?_)
  obtain ⟨rfl, rfl⟩ := q1
  cases r1
  obtain ⟨⟨_, _, _, _, _, _, hf0, _⟩, _, _⟩ := I1.hok f _ hL0
  refine PySem.W.callWith_F ⟨_, _, _, _, hf0⟩ ?_ he hpl
  refine thn (ha.run pos pins s1 σ _ _ I1 ht) fun us s2 ⟨vs, H2, I2, r, q⟩ => ?_
  obtain ⟨x', y', rfl, hL, hC, q⟩ := q
  obtain ⟨u1, u2, rfl, r1, r2⟩ := vals2 r
  obtain ⟨t1, rfl⟩ := r1
  obtain ⟨t2, rfl⟩ := r2
  obtain ⟨⟨params, body, scope, cl, pm, ctv, hf, S⟩, _, _⟩ := I2.hok f _ hL
  obtain ⟨⟨oc, vs, t, hoc, hdc, hvc⟩, _, _⟩ := I2.hok c' _ hC
  refine ⟨⟨_, _, _, _, hf⟩, S X.A X.xe s2 f c' cl pm ctv x' y' t1 t2 _ hr.depth I2.nolimit hf ⟨c', oc, vs, t, rfl, hoc, hdc, hvc⟩ fun s' hk => ?_⟩
  obtain ⟨h', tk, rfl, hk⟩ := hk
  exact ⟨.bl _, H2, I2.kept (t' := tk) hk, rfl, q⟩
end
end K13
namespace K13
open PySem PySem.Spec PyProof.Rows L2
theorem keeps_of {s s1 : Shared} {h1 : Heap} {t1 : Nat} (e : s1 = { s with heap := h1, toks := t1 }) (k : ∀ b o, s.heap.get? b = some o → h1.get? b = some o) : Keeps s s1 := ⟨h1, t1, e, k⟩
/-! ### two lambdas -/
theorem lamSem_of {P : Program} {w : World} {q : Str} {params : Arguments} {body : Expr} {scope : Scope} {stay : Int → Int → Bool}
    (hbind : ∀ (cl : List (Str × Addr)) (pm cv ctv v u : Value), bindArgs (PySem.W.kla_fn "<lambda>" q params body scope cl pm cv ctv) ⟨[v, u], []⟩ = pure [(("old" : Str), v), (("new" : Str), u)])
    (hk : scope.kind = .function) (hco : scope.isCoroutine = false) (hgen : scope.isGenerator = false) (hc : ∀ y ∈ scope.names, y.2 ≠ .cell) (h1 : scope.names.lookup ("old" : Str) = some .local) (h2 : scope.names.lookup ("new" : Str) = some .local)
    (hb : ∀ (A : Around) (E : Value → Shared → Prop) (env : Env) (s : Shared) (m : Str → Option Value) (x y : Int) (t u : Tok) (Q : Value → Shared → Prop), env.scope = scope → s.heap.Ns env.locals m → m "old" = some (.int x t) → m "new" = some (.int y u) →
      Q (.bool (stay x y)) s → wpAny (model P w) A (eval body env) Q E s) : LamSem P w q params body scope stay := by
  intro A E s f c' cl pm ctv x y t u Q hd hlim hf hrec hQ
  refine wpAny_call (PySem.W.kla_callFunE hd hf rfl hco hgen rfl hrec ?_)
  rw [hbind]
  refine wpAny_pure (wpAny_newFunctionEnv hc (fun z hz => ?_) (fun h₁ hns hsb => ⟨hlim.fresh _ hsb, ?_⟩) hk)
  · have : z = (("old" : Str), Value.int x t) ∨ z = (("new" : Str), Value.int y u) := by simpa using hz
    rcases this with e | e
    · rw [e]; exact h1
    · rw [e]; exact h2
  · refine PySem.W.kla_codeExpr (hb _ _ _ _ _ x y t u _ rfl hns ?_ ?_ ?_)
    · rfl
    · rfl
    · refine hQ _ (keeps_of rfl fun b o e => ?_)
      exact hsb.extBut b o (Nat.ne_of_lt (Heap.lt_size e)) (Heap.get?_push_of_some _ e)
theorem lamSem_last {P : Program} {w : World} {q : Str} {params : Arguments} {j : Nat} {pos : Pos} {scope : Scope}
    (hbind : ∀ (cl : List (Str × Addr)) (pm cv ctv v u : Value), bindArgs (PySem.W.kla_fn "<lambda>" q params (.Constant (.bool false) j pos) scope cl pm cv ctv) ⟨[v, u], []⟩ = pure [(("old" : Str), v), (("new" : Str), u)])
    (hk : scope.kind = .function) (hco : scope.isCoroutine = false) (hgen : scope.isGenerator = false) (hc : ∀ y ∈ scope.names, y.2 ≠ .cell) (h1 : scope.names.lookup ("old" : Str) = some .local) (h2 : scope.names.lookup ("new" : Str) = some .local) :
    LamSem P w q params (.Constant (.bool false) j pos) scope (fun _ _ => false) :=
  lamSem_of hbind hk hco hgen hc h1 h2 fun A E env s m x y t u Q _ _ _ _ hQ => Constant_bool hQ
theorem lamSem_far {P : Program} {w : World} {q : Str} {params : Arguments} {p1 p2 pos : Pos} {scope : Scope}
    (hbind : ∀ (cl : List (Str × Addr)) (pm cv ctv v u : Value), bindArgs (PySem.W.kla_fn "<lambda>" q params (.Compare (.Name "old" p1) [.GtE] [.Name "new" p2] pos) scope cl pm cv ctv) ⟨[v, u], []⟩ = pure [(("old" : Str), v), (("new" : Str), u)])
    (hk : scope.kind = .function) (hco : scope.isCoroutine = false) (hgen : scope.isGenerator = false) (hc : ∀ y ∈ scope.names, y.2 ≠ .cell) (h1 : scope.names.lookup ("old" : Str) = some .local) (h2 : scope.names.lookup ("new" : Str) = some .local) :
    LamSem P w q params (.Compare (.Name "old" p1) [.GtE] [.Name "new" p2] pos) scope (fun old new => decide (new ≤ old)) :=
  lamSem_of hbind hk hco hgen hc h1 h2 fun A E env s m x y t u Q hs hn hx hy hQ => by
    have k0 : env.scope.kind = .function := by rw [hs]; exact hk
    refine wpAny_Compare1 (wpAny_Name (wpAny_loadName_local k0 (show env.scope.names.lookup ("old" : Str) = some .local by rw [hs]; exact h1) hn hx ?_)) (nobehind _ (by decide) (by decide))
    refine wpAny_Name (wpAny_loadName_local k0 (show env.scope.names.lookup ("new" : Str) = some .local by rw [hs]; exact h2) hn hy ?_)
    exact ge_int hQ
/-! ### is_in(value, least, most) of ints, whatever runs around -/
structure World0 (K : PySem.W.Frag) (mg : Str → Option Value) (h : Heap) : Prop where
  kin : K.In h
  glob : h.Ns mainGlobals mg
  blt : ∃ mb, h.Ns builtinsNs mb ∧ ∀ x : Str, x ≠ "__name__" → mb x = bootBuiltins x
  lim : h.NoLimit
theorem World0.keeps {K : PySem.W.Frag} {mg : Str → Option Value} {h h' : Heap} (x : World0 K mg h) (k : ∀ b o, h.get? b = some o → h'.get? b = some o) : World0 K mg h' :=
  ⟨x.kin.keeps k, x.glob.keeps k, let ⟨mb, a, b⟩ := x.blt; ⟨mb, a.keeps k, b⟩, x.lim.keeps k⟩
theorem Mod.world0 {K : PySem.W.Frag} {mg : Str → Option Value} {base h : Heap} (x : L2.Mod K mg base) (k : ∀ b o, base.get? b = some o → h.get? b = some o) : World0 K mg h :=
  ⟨x.kin.keeps k, x.glob.keeps k, let ⟨mb, a, b⟩ := x.blt; ⟨mb, a.keeps k, b⟩, x.nolimit.keeps k⟩
section
variable {P : Program} {w : World} {K : PySem.W.Frag} {mg : Str → Option Value} {A : Around} {E : Value → Shared → Prop} {s : Shared} {env : Env} {x : Str} {pos : Pos}
theorem raw_blt {u : Value} {Q : Value → Shared → Prop} (W : World0 K mg s.heap) (hg : env.globals = mainGlobals) (hb : env.builtins = builtinsNs) (hk : env.scope.kind = .function) (hx : env.kindOf x = some .globalImplicit) (hm : mg x = none) (hv : bootBuiltins x = some u) (hn : x ≠ "__name__") (hd : (x == ("__debug__" : Str)) = false) (h : Q u s) :
    wpAny (model P w) A (eval (.Name x pos) env) Q E s := by
  obtain ⟨mb, h1, h2⟩ := W.blt
  exact Calls.Name_function_global hk hx (Calls.loadGlobal_builtin (by rw [hg]; exact W.glob) hm (by rw [hb]; exact h1) ((h2 x hn).trans hv) h) hd
theorem raw_glob {u : Value} {Q : Value → Shared → Prop} (W : World0 K mg s.heap) (hg : env.globals = mainGlobals) (hk : env.scope.kind = .function) (hx : env.kindOf x = some .globalImplicit) (hm : mg x = some u) (hd : (x == ("__debug__" : Str)) = false) (h : Q u s) :
    wpAny (model P w) A (eval (.Name x pos) env) Q E s :=
  Calls.Name_function_global hk hx (Calls.loadGlobal_global (by rw [hg]; exact W.glob) hm h) hd
theorem raw_loc {m : Str → Option Value} {u : Value} {Q : Value → Shared → Prop} (hk : env.scope.kind = .function) (hx : env.kindOf x = some .local) (hn : s.heap.Ns env.locals m) (hm : m x = some u) (hd : (x == ("__debug__" : Str)) = false) (h : Q u s) :
    wpAny (model P w) A (eval (.Name x pos) env) Q E s := wpAny_Name (wpAny_loadName_local hk hx hn hm h) hd
/-- isinstance(value, T) of an int -/
theorem raw_isi {T : Str} {id : String} {b : Bool} {m : Str → Option Value} {i : Int} {t : Tok} {p1 p2 p3 p4 : Pos} {Q : Value → Shared → Prop} (W : World0 K mg s.heap) (hg : env.globals = mainGlobals) (hb : env.builtins = builtinsNs) (hk : env.scope.kind = .function)
    (h1 : env.kindOf "isinstance" = some .globalImplicit) (m1 : mg "isinstance" = none) (h2 : env.kindOf T = some .globalImplicit) (m2 : mg T = none) (v2 : bootBuiltins T = some (.type id)) (n2 : T ≠ "__name__") (d2 : (T == ("__debug__" : Str)) = false)
    (hl : env.kindOf "value" = some .local) (hn : s.heap.Ns env.locals m) (hm : m "value" = some (.int i t)) (e : kitB "int" id = some b) (h : ∀ tk, Q (.bool b) { s with toks := tk }) :
    wpAny (model P w) A (eval (.Call (.Name "isinstance" p1) [.Name "value" p2, .Name T p3] [] p4) env) Q E s := by
  refine wpAny_Call_Name_kw (raw_blt W hg hb hk h1 m1 PyProof.Rows.boot_isinstance (by decide) (by decide) ?_)
  refine PyProof.Rows.callWith_builtin1 (PyProof.Rows.args_cons (raw_loc hk hl hn hm (by decide) (PyProof.Rows.args_cons (raw_blt W hg hb hk h2 m2 v2 n2 d2 (PyProof.Rows.args_nil ?_)) rfl)) rfl) rfl rfl
  exact PySem.W.kia_one (K := K) PySem.W.kitx_int W.kin True.intro (kit_ty e) (fun z => nomatch z) h
end
/-- is_in stands at f -/
structure IsInDef (K : PySem.W.Frag) (f : Addr) : Prop where
  ex : ∃ (oc : Value) (od : Option Addr) (params : Arguments) (scope : Scope) (kV doc pm cdv ct : Value) (an : Option Addr) (osl : Array (Option Value)) (p1 p2 p3 p4 p5 p6 p7 p8 p9 p10 p11 p12 p13 p14 p15 : Pos),
    K.lookup f = some ⟨oc, od, .func (PySem.W.fnOf "is_in" "is_in" params
      [.Return (some (.BoolOp .And [.Call (.Name "isinstance" p1) [.Name "value" p2, .Name "int" p3] [] p4, .UnaryOp .Not (.Call (.Name "isinstance" p5) [.Name "value" p6, .Name "bool" p7] [] p8) p9, .Compare (.Name "least" p10) [.LtE, .LtE] [.Name "value" p11, .Name "most" p12] p13] p14)) p15]
      scope .none kV doc pm an cdv ct), osl⟩ ∧ PySem.W.codeIn K cdv "is_in" = true ∧
    (∀ (v a b : Value), bindArgs (PySem.W.fnOf "is_in" "is_in" params
      [.Return (some (.BoolOp .And [.Call (.Name "isinstance" p1) [.Name "value" p2, .Name "int" p3] [] p4, .UnaryOp .Not (.Call (.Name "isinstance" p5) [.Name "value" p6, .Name "bool" p7] [] p8) p9, .Compare (.Name "least" p10) [.LtE, .LtE] [.Name "value" p11, .Name "most" p12] p13] p14)) p15]
      scope .none kV doc pm an cdv ct) ⟨[v, a, b], []⟩ = pure [(("value" : Str), v), (("least" : Str), a), (("most" : Str), b)]) ∧
    scope.kind = .function ∧ scope.isCoroutine = false ∧ scope.isGenerator = false ∧ (∀ y ∈ scope.names, y.2 ≠ .cell) ∧ scope.names.lookup ("value" : Str) = some .local ∧ scope.names.lookup ("least" : Str) = some .local ∧ scope.names.lookup ("most" : Str) = some .local ∧
    scope.names.lookup ("isinstance" : Str) = some .globalImplicit ∧ scope.names.lookup ("int" : Str) = some .globalImplicit ∧ scope.names.lookup ("bool" : Str) = some .globalImplicit
theorem isin_raw {P : Program} {w : World} {K : PySem.W.Frag} {mg : Str → Option Value} {A : Around} {E : Value → Shared → Prop} {s : Shared} {f : Addr} (D : IsInDef K f) (W : World0 K mg s.heap) (m1 : mg "isinstance" = none) (m2 : mg "int" = none) (m3 : mg "bool" = none)
    (hd : A.depth < recursionLimit) (i lo hi : Int) (t t1 t2 : Tok) {Q : Value → Shared → Prop} (hQ : ∀ s', Keeps s s' → Q (.bool (decide (lo ≤ i) && decide (i ≤ hi))) s') : wpAny (model P w) A (call (.ref f) [.int i t, .int lo t1, .int hi t2]) Q E s := by
  obtain ⟨oc, od, params, scope, kV, doc, pm, cdv, ct, an, osl, p1, p2, p3, p4, p5, p6, p7, p8, p9, p10, p11, p12, p13, p14, p15, lk, hcd, hbind, hk, hco, hgen, hc, hv, hle, hmo, g1, g2, g3⟩ := D.ex
  refine wpAny_call (codeAny_call_function hd (W.kin _ _ lk) rfl hco hgen rfl (PySem.W.codeRec_of W.kin hcd) ?_)
  rw [hbind]
  refine wpAny_pure (wpAny_newFunctionEnv hc (fun z hz => ?_) (fun h₁ hns hsb => ⟨W.lim.fresh _ hsb, codeAny_func ?_⟩) hk)
  · have : z = (("value" : Str), Value.int i t) ∨ z = (("least" : Str), Value.int lo t1) ∨ z = (("most" : Str), Value.int hi t2) := by simpa using hz
    rcases this with e | e | e
    · rw [e]; exact hv
    · rw [e]; exact hle
    · rw [e]; exact hmo
  · have kp : ∀ b o, s.heap.get? b = some o → h₁.get? b = some o := fun b o e => hsb.extBut b o (Nat.ne_of_lt (Heap.lt_size e)) (Heap.get?_push_of_some _ e)
    have W1 : World0 K mg h₁ := W.keeps kp
    refine wpAny_execs_cons (wpAny_Return_some ?_)
    refine BoolOp_and (raw_isi (K := K) (T := "int") (id := "int") (b := true) W1 rfl rfl hk g1 m1 g2 m2 (by decide +kernel) (by decide) (by decide) hv hns rfl (by decide +kernel) fun tk => wpAny_truthy_bool ?_)
    refine BoolOp_and (UnaryOp_ (raw_isi (K := K) (s := { s with heap := h₁, toks := tk }) (T := "bool") (id := "bool") (b := false) W1 rfl rfl hk g1 m1 g3 m3 (by decide +kernel) (by decide) (by decide) hv hns rfl (by decide +kernel) fun tk2 => not_of (wpAny_truthy_bool (wpAny_truthy_bool ?_))))
    refine BoolOp_one ?_
    refine Compare_chain (raw_loc (s := { s with heap := h₁, toks := tk2 }) hk hle hns (u := .int lo t1) rfl (by decide) (chain_link (raw_loc (s := { s with heap := h₁, toks := tk2 }) hk hv hns (u := .int i t) rfl (by decide) (le_int (wpAny_truthy_bool ?_)))))
    have fin : ∀ c : Bool, c = (decide (lo ≤ i) && decide (i ≤ hi)) → Q (.bool c) { s with heap := h₁, toks := tk2 } := fun c e => by
      rw [e]
      exact hQ _ (keeps_of rfl kp)
    cases hb : decide (lo ≤ i) with
    | false => exact ite_ff (fin _ (by rw [hb]; rfl))
    | true =>
      refine ite_tt (chain_last (raw_loc (s := { s with heap := h₁, toks := tk2 }) hk hmo hns (u := .int hi t2) rfl (by decide) (le_int ?_)))
      exact fin _ (by rw [hb]; rfl)
end K13
/-! all(is_in(one, 0, size - 1) for one in t), t a tuple of ints. -/
namespace K13
open PySem PySem.Spec PyProof.Rows L2
/-- the element's value, whatever runs around, over any heap that keeps what stood (but the table) -/
def EltT (X : Cx) (P : Addr) (scope : Scope) (x : Str) (elt : Expr) (n : Int) : Prop :=
  ∀ (s2 : Shared) (C bi : Addr) (code : Value) (A' : Around) (E' : Value → Shared → Prop) (i : Int) (t : Tok) (m₂ : Str → Option Value) (Z : World0 X.K X.mg s2.heap),
    A'.depth < recursionLimit → (∃ c u, X.env.cells.lookup ("size" : Str) = some c ∧ s2.heap.IsCell c (some (.int n u))) → s2.heap.Ns C m₂ → m₂ x = some (.int i t) →
    wpAny (model X.prog X.w) A' (eval elt (genEnv scope (cloFrom X.env.cells scope.names []) C code bi X.env)) (fun y s₃ => y = .bool (decide (0 ≤ i) && decide (i ≤ n - 1)) ∧ Keeps s2 s₃) E' s2
section
variable {X : Cx} {pins : List (Addr × Obj)} {σ : L2.St} {H : Hp} {s : Shared}
/-- the test at place j -/
def trI (n : Int) (l : List Int) (j : Nat) : Bool := match l[j]? with
  | some i => decide (0 ≤ i) && decide (i ≤ n - 1)
  | none => false
theorem trI_some {n i : Int} {l : List Int} {j : Nat} (h : l[j]? = some i) : trI n l j = (decide (0 ≤ i) && decide (i ≤ n - 1)) := by
  unfold trI
  rw [h]
theorem all_trI (l : List Int) (n : Int) : (List.range l.length).all (trI n l) = l.all fun i => decide (0 ≤ i) && decide (i ≤ n - 1) := by
  rw [Bool.eq_iff_iff, List.all_eq_true, List.all_eq_true]
  constructor
  · intro h b hb
    obtain ⟨j, hj, e⟩ := List.getElem_of_mem hb
    have q := h j (List.mem_range.mpr hj)
    rw [trI_some (List.getElem?_eq_getElem hj), e] at q
    exact q
  · intro h j hj
    have hj' := List.mem_range.mp hj
    rw [trI_some (List.getElem?_eq_getElem hj')]
    exact h _ (List.getElem_mem hj')
/-- all(elt for x in iter), iter a tuple of ints; slot k: size -/
def tAllT (K : PySem.W.Frag) (P : Addr) (k : Nat) (te : TE) : TE := fun σ H Q => te σ H fun v H1 => ∃ (a : Addr) (ns : List Int) (n : Int), v = .ref a ∧ SqT K H1 a (ns.map V.int) ∧ σ[k]? = some (some (.int n)) ∧ GxR.TabG H1 P ∧
  ∀ H2, GxR.Tabbed P H1 H2 → Q (.bl (ns.all fun i => decide (0 ≤ i) && decide (i ≤ n - 1))) H2
theorem pe_allT {c P : Addr} {elt iter : Expr} {x : Str} {px p pos gpos : Pos} {scope : Scope} {te : TE} {k kz : Nat}
    (hr : Room k X.A) (hg : Gl X "all") (hm : X.mg "all" = none) (TB : GxR.TabB X.base X.mg c P) (hcode : X.env.code = .ref c) (S : GxR.GenS X.env scope x) (hi : PE X iter te)
    (hN : X.N[kz]? = some ("size" : Str)) (hsz : X.env.scope.names.lookup ("size" : Str) = some .cell) (hel : ∀ n, EltT X P scope x elt n)
    (hs : ∀ v, genFold iter X.env v = pure v)
    (he : starEach [.GeneratorExp elt [⟨.Name x px, iter, [], 0⟩] scope gpos] X.env = (false, eval (.GeneratorExp elt [⟨.Name x px, iter, [], 0⟩] scope gpos) X.env) :: starEach [] X.env := by rfl) :
    PE X (.Call (.Name "all" p) [.GeneratorExp elt [⟨.Name x px, iter, [], 0⟩] scope gpos] [] pos) (tAllT X.K P kz te) := by
  refine ⟨fun pins s σ H Q I h => ?_⟩
  refine wpAny_Call_Name_kw (ld_blt (u := .builtin "all") I hg hm (by decide +kernel) ?_)
  refine PyProof.Rows.callWith_builtin1 ?_ he (by rfl)
  rw [he]
  show wpAny _ _ (spliced ((false, eval (.GeneratorExp elt [⟨.Name x px, iter, [], 0⟩] scope gpos) X.env) :: backTo pos (starEach [] X.env))) _ _ s
  refine Calls.spliced_cons ?_
  refine wpAny_GeneratorExp_walksQD hr.hd S.co (closure_ok S.free) S.cell S.dot S.loc S.kind (by have := hr.dp; omega) ?_ hs
  refine thn (hi.run pins s σ H _ I h) fun xv s1 ⟨v, H1, I1, r1, q1⟩ => ?_
  obtain ⟨a, ns, n, rfl, hT, hn, ⟨ps, hP, ht⟩, q1⟩ := q1
  cases r1
  obtain ⟨its, rv, htup, hz⟩ := I1.tuple hT
  have hlt : a < s1.heap.objs.size := htup.lt
  refine wpAny_pyIter_tuple htup ?_
  have hne : a ≠ s1.heap.objs.size := Nat.ne_of_lt hlt
  have hPs : s1.heap.get? P = some { cls := .none, data := .fields ps } := I1.hok P _ hP
  have hPlt : P < s1.heap.objs.size := Heap.lt_size hPs
  have aP : a ≠ P := fun e => by
    obtain ⟨o, ho, hc, _, hd⟩ := htup
    rw [e, hPs] at ho
    cases ho
    cases hd
  have hP2 : (s1.heap.push { cls := .type "tuple_iterator", data := .fields #[.ref a, .int 0 0] }).get? P = some { cls := .none, data := .fields ps } := Heap.get?_push_of_some _ hPs
  have cd : PySem.W.CodeHd (s1.heap.push { cls := .type "tuple_iterator", data := .fields #[.ref a, .int 0 0] }) c P := TB.code.keeps fun b u e => Heap.get?_push_of_some _ (I1.bk b u e)
  have lim2 : (s1.heap.push { cls := .type "tuple_iterator", data := .fields #[.ref a, .int 0 0] }).NoLimit := I1.nolimit.push _
  have hcP : cStatics ≠ P := fun e => by
    obtain ⟨_, hns, _⟩ := I1.nolimit
    obtain ⟨o', es, ep, ho, hd, _⟩ := hns
    rw [e, hPs] at ho
    cases ho
    cases hd
  have hcl : cStatics < s1.heap.objs.size := let ⟨_, hns, _⟩ := I1.nolimit; hns.lt
  -- the cell of size
  have hcell : ∃ cz u, X.env.cells.lookup ("size" : Str) = some cz ∧ s1.heap.IsCell cz (some (.int n u)) ∧ cz ≠ P := by
    obtain ⟨m, hnm, hl⟩ := I1.loc
    obtain ⟨u, ru, lk⟩ := hl kz _ _ hN hn (.inr (.inl hsz))
    obtain ⟨t, rfl⟩ := ru
    rcases lk with ⟨k', _⟩ | ⟨_, cz, e1, e2⟩
    · have k'' : X.env.scope.names.lookup ("size" : Str) = some .local := k'
      rw [hsz] at k''
      cases k''
    · refine ⟨cz, t, e1, e2, fun e => ?_⟩
      rw [← e] at hP
      rw [I1.freeC _ _ e1] at hP
      cases hP
  obtain ⟨cz, uz, hcz1, hcz2, hczP⟩ := hcell
  have cont : ∀ (code : Value) (h3 : Heap) (tk : Nat) (ps' : Array Value), Heap.ExtBut P (s1.heap.push { cls := .type "tuple_iterator", data := .fields #[.ref a, .int 0 0] }) h3 → (s1.heap.push { cls := .type "tuple_iterator", data := .fields #[.ref a, .int 0 0] }).objs.size ≤ h3.objs.size → h3.get? P = some { cls := .none, data := .fields ps' } → (∃ more, ps' = ps ++ more) → TriplesOk ps'.toList →
      wpAny (model X.prog X.w) X.A (builtinsFor X.env.globals X.env.builtins) (fun bi s₄ =>
        ∃ Ia fp wr n₀ Pf St₀ pz F, Value.ref s1.heap.objs.size = .ref Ia ∧ (∀ A' : Around, A'.handled = none → Walks X.prog X.w A' Ia fp wr n₀ Pf St₀) ∧ St₀ 0 s₄.heap ∧ (∀ b ∈ fp, b < s₄.heap.objs.size) ∧ s₄.heap.NoLimit ∧ cStatics ∉ wr ∧
          (∀ href : Heap, (∀ b o, s₄.heap.get? b = some o → href.get? b = some o) →
            QuietGenD X.prog X.w (genEnv scope (cloFrom X.env.cells scope.names []) s₄.heap.objs.size code bi X.env) x [] elt (List.range s₄.heap.objs.size) wr Pf pz F href (X.A.depth + 1) (X.A.units + 8)) ∧
          (∀ a' h₅ tk gs, gs.bare = true → s₄.heap.objs.size < a' → h₅.objs.size = a' + 1 → (∀ b o, s₄.heap.get? b = some o → h₅.get? b = some o) →
            WalksS X.prog X.w X.A.in4 a' (a' :: s₄.heap.objs.size :: List.range s₄.heap.objs.size) (s₄.heap.objs.size :: wr) (GenOnlyQ s₄.gens.size) (passing pz n₀ 0).length
              (fun j y => ∃ i, (passing pz n₀ 0)[j]? = some i ∧ F i y) (GenAt X.prog X.w X.A.in4 a' s₄.gens.size s₄.heap.objs.size (List.range s₄.heap.objs.size) wr pz n₀ F) →
            GenAt X.prog X.w X.A.in4 a' s₄.gens.size s₄.heap.objs.size (List.range s₄.heap.objs.size) wr pz n₀ F 0 { s₄ with gens := s₄.gens.push gs, toks := tk, heap := h₅ } →
            wpAny (model X.prog X.w) X.A (spliced (backTo pos (starEach [] X.env))) (fun vs s₂ => wpAny (model X.prog X.w) X.A (call (.builtin "all") (Value.ref a' :: vs)) (EP X pins σ Q) X.xe s₂) X.xe { s₄ with gens := s₄.gens.push gs, toks := tk, heap := h₅ })) X.xe { s1 with heap := h3, toks := tk } := by
    intro code h3 tk ps' hx hsz3 hP3 hmore ht3
    obtain ⟨bm, ob, e1, e2, e3, e4, e5, e6, e7, e8⟩ := TB.bm
    have sz2 : (s1.heap.push { cls := .type "tuple_iterator", data := .fields #[.ref a, .int 0 0] }).objs.size = s1.heap.objs.size + 1 := Heap.size_push ..
    have keep3 : ∀ b u, b ≠ P → s1.heap.get? b = some u → h3.get? b = some u := fun b u hb e => hx b u hb (Heap.get?_push_of_some _ e)
    refine wpAny_builtinsFor (m := X.mg) (by rw [I1.ok.glob]; exact ((I1.mod.glob.keeps I1.bk).push _).extBut hx TB.gP) e1 e2 (keep3 _ _ e4 (I1.bk _ _ e5)) e6 e7 e8 ?_
    refine ⟨s1.heap.objs.size, [s1.heap.objs.size, a], [s1.heap.objs.size], its.toArray.size, (fun i v => its.toArray[i]? = some v), (fun i h => h.IsTupleIter s1.heap.objs.size a i ∧ h.IsTuple a its.toArray), (fun _ => true),
      (fun i y => ∃ z, ns[i]? = some z ∧ y = .bool (decide (0 ≤ z) && decide (z ≤ n - 1))), rfl, fun A' hA => Walks.tuple hA _ _ hne _, ?_, ?_, lim2.extBut hx hcP, ?_, ?_, ?_⟩
    · refine ⟨⟨_, hx _ _ (Nat.ne_of_gt hPlt) (Heap.get?_push_size _ rfl), rfl, rfl⟩, ?_⟩
      obtain ⟨o, ho, hc, hd⟩ := htup
      exact ⟨o, keep3 a o aP ho, hc, hd⟩
    · intro b hb
      have hb' : b = s1.heap.objs.size ∨ b = a := by simpa using hb
      rcases hb' with z | z
      · rw [z]
        show s1.heap.objs.size < h3.objs.size
        omega
      · rw [z]
        show a < h3.objs.size
        exact Nat.lt_of_lt_of_le hlt (by omega)
    · intro z
      rcases List.mem_cons.mp z with z | z
      · exact Nat.ne_of_lt hcl z
      · cases z
    · intro href hhref
      have look : ∀ (s₂ : Shared), (∀ b ∈ List.range h3.objs.size, b ∉ [s1.heap.objs.size] → ∀ o, href.get? b = some o → s₂.heap.get? b = some o) → ∀ b o, b ≠ P → s1.heap.get? b = some o → s₂.heap.get? b = some o := fun s₂ hk b o hb e => by
        have hl := Heap.lt_size e
        refine hk b (List.mem_range.mpr (Nat.lt_of_lt_of_le hl (by omega))) (fun z => ?_) o (hhref b o (keep3 b o hb e))
        rw [List.mem_singleton] at z
        rw [z] at hl
        exact Nat.lt_irrefl _ hl
      refine ⟨fun A' E' i v s₂ m₂ hA hD hU hPv hn' hm' hk => ?_, fun A' E' i v s₂ m₂ hA hD hU hPv hp hn' hm' hk => ?_⟩
      · simp only [List.forIn_nil]
        exact wpAny_pure ⟨rfl, GxR.keeps_refl _⟩
      · have lk := look s₂ hk
        have hlen := rv.length
        have hil : i < ns.length := by
          have h1 := (Array.getElem?_eq_some_iff.mp hPv).1
          rw [List.size_toArray] at h1
          rw [List.length_map] at hlen
          omega
        obtain ⟨u, hu, ru⟩ := rv.get (show (ns.map V.int)[i]? = some (.int ns[i]) by rw [List.getElem?_map, List.getElem?_eq_getElem hil]; rfl)
        have eu : u = v := Option.some.inj (hu.symm.trans (by simpa using hPv))
        subst eu
        obtain ⟨t, rfl⟩ := ru
        have Z : World0 X.K X.mg s₂.heap := Mod.world0 I1.ok.mod fun b o e => lk b o (fun z => by
          have q := (I1.bs b o e).2
          rw [z, hP] at q
          cases q) (I1.bk b o e)
        have hcc : s₂.heap.IsCell cz (some (.int n uz)) := by
          obtain ⟨o, ho, hd⟩ := hcz2
          exact ⟨o, lk cz o hczP ho, hd⟩
        refine wpAny_mono (hel n s₂ h3.objs.size _ code A' E' ns[i] t m₂ Z (by have := hr.dp; omega) ⟨cz, uz, hcz1, hcc⟩ hn' hm') (fun y s3 r => ⟨⟨ns[i], List.getElem?_eq_getElem hil, r.1⟩, r.2⟩) fun _ _ e => e
    · intro g h5 tk5 gs hgb hag hsz5 hk5 W5 hat
      simp only [GxR.passing_true, List.length_range] at W5
      refine Calls.spliced_nil ?_
      refine call_all_walkS (W5.in4_1.self 0 _ _ _ hat ⟨g, _, _, _, _, _, _, trI n ns, rfl, W5.in4_1, hat, ?_, fun s' hmv => ?_⟩)
      · intro j y sj Qj Ej hy hQj
        obtain ⟨i, hij, z, hzz, rfl⟩ := hy
        obtain ⟨hj, ej⟩ := List.getElem?_eq_some_iff.mp hij
        rw [List.getElem_range] at ej
        subst ej
        rw [trI_some hzz] at hQj
        exact wpAny_truthy_bool hQj
      · obtain ⟨more, em⟩ := hmore
        have nwr : ∀ b u, s1.heap.get? b = some u → b ∉ h3.objs.size :: [s1.heap.objs.size] := fun b u e hb => by
          have hl := Heap.lt_size e
          rcases List.mem_cons.mp hb with z | z
          · rw [z] at hl
            have h9 : (h3.objs.size : Nat) < s1.heap.objs.size := hl
            omega
          · rcases List.mem_cons.mp z with z | z
            · rw [z] at hl
              exact Nat.lt_irrefl _ hl
            · cases z
        have J := GxR.inv_tab (more := more) (h' := s'.heap) (g' := s'.gens) (d' := s'.drawn) (t' := s'.toks) I1 hP (fun b u hb e => hmv.heap b u (nwr b u e) (hk5 b u (keep3 b u hb e)))
          (by rw [← em]; exact hmv.heap P _ (nwr P _ hPs) (hk5 P _ hP3)) (AllBare.movedS (I1.bare.push hgb) hmv)
        rw [GxR.sh_eta s1 s' hmv.os] at J
        refine ⟨.bl _, upd H1 P (.tbl (ps ++ more)), J, rfl, ?_⟩
        have hl : its.toArray.size = ns.length := by
          have := rv.length
          rw [List.length_map] at this
          rw [List.size_toArray]
          omega
        rw [hl, all_trI]
        exact q1 _ ⟨⟨ps ++ more, upd_same, by rw [← em]; exact ht3⟩, fun b hb => upd_ne hb⟩
  refine ⟨lim2, ?_⟩
  cases hf : codeAmong gpos ps.toList with
  | none =>
    refine wpAny_genexprCodeX hcode (cd.code hP2 ht) (cd.tab hP2) hf fun c' h' tk hx hge hlt hco' _ htab' _ => ?_
    obtain ⟨o1, vs, f1, tf, fl, tg, inF, tx, tt, op, _, _, _, _, _, _, _, _, _, htr, _⟩ := hco'
    exact cont _ h' tk _ hx (Nat.le_trans hge (Nat.le_of_lt hlt)) htab'.2 ⟨_, rfl⟩ htr
  | some cv =>
    refine wpAny_genexprCode_hit hcode (cd.code hP2 ht) hf ?_
    exact cont cv _ s1.toks ps (Heap.ExtBut.refl _ _) (Nat.le_refl _) hP2 ⟨#[], by simp⟩ ht
end
theorem clo_lookup {cells : List (Str × Addr)} {names : List (Str × NameKind)} {y : Str} {c : Addr} (hl : names.lookup y = some .free) (hc : cells.lookup y = some c) : (cloFrom cells names []).lookup y = some c := by
  have hy : (y, NameKind.free) ∈ names := PySem.mem_of_lookup hl
  obtain ⟨c', h'⟩ := mem_lookup (cloFrom_has (cells := cells) (acc := []) hy)
  rcases cloFrom_mem (PySem.mem_of_lookup h') with hm | ⟨h1, h2⟩
  · cases hm
  · rw [h', h2, hc]
    rfl
theorem elt_isin {X : Cx} {P f : Addr} {scope : Scope} {x : Str} {j j2 : Nat} {p1 p2 p3 p4 p5 p6 p7 : Pos} {n : Int} (D : IsInDef X.K f) (hmf : X.mg "is_in" = some (.ref f)) (hk : PySem.W.keepIn X.K (.ref f) = true) (hglob : X.env.globals = mainGlobals)
    (m1 : X.mg "isinstance" = none) (m2 : X.mg "int" = none) (m3 : X.mg "bool" = none) (hkind : scope.kind = .function) (h1 : scope.names.lookup ("is_in" : Str) = some .globalImplicit) (h2 : scope.names.lookup x = some .local) (h3 : scope.names.lookup ("size" : Str) = some .free) (hd : (x == ("__debug__" : Str)) = false) :
    EltT X P scope x (.Call (.Name "is_in" p1) [.Name x p2, .Constant (.int 0) j p3, .BinOp (.Name "size" p4) .Sub (.Constant (.int 1) j2 p5) p6] [] p7) n := by
  intro s C bi code A' E' i t m₂ Z hdep hcell hns hx
  obtain ⟨c, u, hc1, hc2⟩ := hcell
  have hcl := clo_lookup h3 hc1
  have fin : ∀ (tk : Nat) (t1 t2 : Tok), wpAny (model X.prog X.w) A' (call (.ref f) ([] ++ [.int i t, .int 0 t1, .int (n - 1) t2])) (fun y s₃ => y = .bool (decide (0 ≤ i) && decide (i ≤ n - 1)) ∧ Keeps s s₃) E' { s with toks := tk } := fun tk t1 t2 => by
    refine isin_raw (K := X.K) (mg := X.mg) (s := { s with toks := tk }) D Z m1 m2 m3 hdep i 0 (n - 1) t t1 t2 fun s' hk' => ⟨rfl, ?_⟩
    obtain ⟨h', tk', rfl, k⟩ := hk'
    exact ⟨h', tk', rfl, k⟩
  refine wpAny_Call_Name_kw (raw_glob (K := X.K) Z hglob hkind h1 hmf (by decide) ?_)
  refine PySem.W.callWith_K (K := X.K) (h₀ := s.heap) Z.kin hk (PyProof.Rows.args_cons (raw_loc hkind h2 hns hx hd (PyProof.Rows.args_cons (wpAny_Constant_int (PyProof.Rows.args_cons (wpAny_BinOp (wpAny_Name (wpAny_loadName_free hkind h3 hcl (s := { s with toks := s.toks + 1 }) hc2 (wpAny_Constant_int (sub_int ?_))) (by decide))) rfl)) rfl)) rfl) rfl rfl
  exact PyProof.Rows.args_nil ⟨Z.kin, fin _ _ _⟩
end K13
namespace K13
open PySem PySem.Spec PyProof.Rows L2
/-! ### the text by places -/
def topS (i : Nat) : Stmt := PySem.Challenge.pw_parksums_k13_whole_stands.main.body.getD i (.Pass ⟨0, 0, 0, 0⟩)
abbrev sIsIn : Stmt := topS 8
abbrev sNeedSize : Stmt := topS 9
abbrev sAreWishes : Stmt := topS 10
abbrev sNeedWishes : Stmt := topS 11
abbrev sSpotsOf : Stmt := topS 12
abbrev sSettled : Stmt := topS 14
abbrev sByLast : Stmt := topS 15
abbrev sByFar : Stmt := topS 16
abbrev sIsStand : Stmt := topS 17
abbrev sNeedStand : Stmt := topS 18
abbrev sWalksIn : Stmt := topS 19
abbrev sStandWalks : Stmt := topS 20
abbrev sWorstOf : Stmt := topS 21
abbrev sLeastWorst : Stmt := topS 22
abbrev sShows : Stmt := topS 23
abbrev sTaken : Stmt := topS 25
abbrev sPick : Stmt := topS 26
abbrev sAlike : Stmt := topS 27
abbrev sLSpots : Stmt := topS 28
abbrev sLWishes : Stmt := topS 32
abbrev sLSettled : Stmt := topS 33
abbrev sLeast : Stmt := topS 34
abbrev sLaw : Stmt := topS 35
/-! ### a def of the text -/
structure De (K : PySem.W.Frag) (mg : Str → Option Value) (x : Str) (st : Stmt) (ps : List Str) (f : Addr) (fd : FuncData) : Prop where
  F : Fun K x x st f fd
  b : Binds K fd ps []
  g : mg x = some (.ref f)
/-- .. and its code object stands at c -/
structure DeC (K : PySem.W.Frag) (mg : Str → Option Value) (x : Str) (st : Stmt) (ps : List Str) (f : Addr) (fd : FuncData) (c : Addr) : Prop where
  ex : ∃ (oc : Value) (od : Option Addr) (kV doc pm : Value) (an : Option Addr) (ct : Value) (osl : Array (Option Value)),
    fd = PySem.W.fnOf x x (defArgs st) (defBody st) (defScope st) .none kV doc pm an (.ref c) ct ∧ K.lookup f = some ⟨oc, od, .func fd, osl⟩ ∧ PySem.W.codeIn K (.ref c) x = true
  kp : PySem.W.keepIn K (.ref f) = true
  b : Binds K fd ps []
  g : mg x = some (.ref f)
theorem DeC.ok {P : Program} {w : World} {K : PySem.W.Frag} {mg : Str → Option Value} {base : Heap} {x : Str} {st : Stmt} {f c : Addr} {fd : FuncData} {N ps : List Str} {k : Nat} {sp : Sp} (F : DeC K mg x st ps f fd c) (S : FnScope N ps (defScope st)) (len : ∀ vs H Q E, sp vs H Q E → vs.length = ps.length)
    (hbody : ∀ (A : Around) (outer : List Env) (s : Shared) (H : Hp) (vs : List V) (Q : VK) (E : XK), Room k (A.deeper (envOfC x (defScope st) s.heap.objs.size f (.ref c))) → sp vs H Q E →
      ∃ t, PSs (cxOf CX0 P w K mg base N x (defScope st) f (.ref c) A outer s H E).nox (defBody st) t ∧ t { nx := fun _ H' => Q .non H', rt := Q } (start N vs) H) : FnOk P w K mg base CX0 (k + 1) f fd ps sp := by
  obtain ⟨oc, od, kV, doc, pm, an, ct, osl, rfl, lk, hcd⟩ := F.ex
  refine fn_of lk hcd S len fun A outer s H vs Q E hr hsp => ?_
  obtain ⟨t, h, q⟩ := hbody A outer s H vs Q E hr hsp
  exact ⟨t, h.nox, q⟩
/-! ### the tables of code objects -/
structure Tbs where
  aw : Addr
  st : Addr
  pl : Addr
  pf : Addr
  pw : Addr
def Tbs.mem (T : Tbs) (b : Addr) : Prop := b = T.aw ∨ b = T.st ∨ b = T.pl ∨ b = T.pf ∨ b = T.pw
structure Tbs.Apart (T : Tbs) : Prop where
  h1 : T.aw ≠ T.st
  h2 : T.aw ≠ T.pl
  h3 : T.aw ≠ T.pf
  h4 : T.aw ≠ T.pw
  h5 : T.st ≠ T.pl
  h6 : T.st ≠ T.pf
  h7 : T.st ≠ T.pw
  h8 : T.pl ≠ T.pf
  h9 : T.pl ≠ T.pw
  h10 : T.pf ≠ T.pw
abbrev qLast : Str := ("by_last" ++ ".<locals>." : Str) ++ "<lambda>"
abbrev qFar : Str := ("by_farthest" ++ ".<locals>." : Str) ++ "<lambda>"
abbrev qWorst : Str := ("worst_of" ++ ".<locals>." : Str) ++ "<lambda>"
structure Tb (T : Tbs) (H : Hp) : Prop where
  aw : GxR.TabG H T.aw
  st : GxR.TabG H T.st
  pl : LamX.TabS H T.pl qLast
  pf : LamX.TabS H T.pf qFar
  pw : LamX.TabS H T.pw qWorst
/-- all that was tracked is as it was, but for the tables -/
structure Ex (T : Tbs) (H H' : Hp) : Prop where
  keep : ∀ b o, H b = some o → ¬ T.mem b → H' b = some o
  tb : Tb T H'
theorem TabG.tbl {H : Hp} {P : Addr} (t : GxR.TabG H P) : ∃ ps, H P = some (.tbl ps) := let ⟨ps, h, _⟩ := t; ⟨ps, h⟩
theorem TabS.tbl {H : Hp} {P : Addr} {q : Str} (t : LamX.TabS H P q) : ∃ ps, H P = some (.tbl ps) := let ⟨ps, h, _⟩ := t; ⟨ps, h⟩
theorem Tb.tbl {T : Tbs} {H : Hp} (t : Tb T H) {b : Addr} (h : T.mem b) : ∃ ps, H b = some (.tbl ps) := by
  rcases h with e | e | e | e | e
  · rw [e]; exact TabG.tbl t.aw
  · rw [e]; exact TabG.tbl t.st
  · rw [e]; exact TabS.tbl t.pl
  · rw [e]; exact TabS.tbl t.pf
  · rw [e]; exact TabS.tbl t.pw
theorem Tb.not {T : Tbs} {H : Hp} (t : Tb T H) {b : Addr} {o : HO} (e : H b = some o) (h : ∀ ps, o ≠ .tbl ps) : ¬ T.mem b := fun z => by
  obtain ⟨ps, q⟩ := t.tbl z
  rw [e] at q
  exact h ps (Option.some.inj q)
theorem tabG_same {H H' : Hp} {P : Addr} (t : GxR.TabG H P) (e : ∀ b o, H b = some o → H' b = some o) : GxR.TabG H' P := let ⟨ps, h, r⟩ := t; ⟨ps, e _ _ h, r⟩
theorem Tb.same {T : Tbs} {H H' : Hp} (t : Tb T H) (e : Same H H') : Tb T H' := ⟨tabG_same t.aw e, tabG_same t.st e, t.pl.ext e, t.pf.ext e, t.pw.ext e⟩
theorem Ex.of {T : Tbs} {H H' : Hp} (t : Tb T H) (e : Same H H') : Ex T H H' := ⟨fun b o h _ => e b o h, t.same e⟩
theorem Ex.refl {T : Tbs} {H : Hp} (t : Tb T H) : Ex T H H := .of t (Same.refl H)
theorem Ex.trans {T : Tbs} {H H1 H2 : Hp} (a : Ex T H H1) (b : Ex T H1 H2) : Ex T H H2 := ⟨fun c o h n => b.keep c o (a.keep c o h n) n, b.tb⟩
theorem Ex.up {T : Tbs} {H H1 H2 : Hp} (a : Ex T H H1) (b : Same H1 H2) : Ex T H H2 := a.trans (.of a.tb b)
theorem Ex.at_ {T : Tbs} {H H' : Hp} (a : Ex T H H') (t : Tb T H) {b : Addr} {o : HO} (e : H b = some o) (h : ∀ ps, o ≠ .tbl ps := by intro ps z; cases z) : H' b = some o := a.keep b o e (t.not e h)
theorem Ex.free {T : Tbs} {H H' : Hp} (a : Ex T H H') {p : Addr} (h : H' p = none) : H p = none := by
  cases e : H p with
  | none => rfl
  | some o =>
    by_cases hm : T.mem p
    · obtain ⟨ps, q⟩ := a.tb.tbl hm
      rw [h] at q
      cases q
    · rw [a.keep p o e hm] at h
      cases h
theorem Ex.sqT {T : Tbs} {K : PySem.W.Frag} {H H' : Hp} {a : Addr} {xs : List V} (e : Ex T H H') (t : Tb T H) (h : SqT K H a xs) : SqT K H' a xs := by
  rcases h with (h | ⟨o, h⟩) | h
  · exact .inl (.inl (e.at_ t h))
  · exact .inl (.inr ⟨o, e.at_ t h⟩)
  · exact .inr h
theorem Ex.sqL {T : Tbs} {K : PySem.W.Frag} {H H' : Hp} {a : Addr} {xs : List V} (e : Ex T H H') (t : Tb T H) (h : SqL K H a xs) : SqL K H' a xs := by
  rcases h with (h | ⟨o, h⟩) | h
  · exact .inl (.inl (e.at_ t h))
  · exact .inl (.inr ⟨o, e.at_ t h⟩)
  · exact .inr h
theorem sameT {K : PySem.W.Frag} {H H' : Hp} {a : Addr} {xs : List V} (e : Same H H') (h : SqT K H a xs) : SqT K H' a xs := by
  rcases h with (h | ⟨o, h⟩) | h
  · exact .inl (.inl (e _ _ h))
  · exact .inl (.inr ⟨o, e _ _ h⟩)
  · exact .inr h
theorem sameB {k : Bool} {K : PySem.W.Frag} {H H' : Hp} {a : Addr} {xs : List V} (e : Same H H') (h : SqB k K H a xs) : SqB k K H' a xs := by
  cases k with
  | true => exact e.seq h
  | false => exact sameT e h
theorem same_upd {H : Hp} {p : Addr} {o : HO} (h : H p = none) : Same H (upd H p o) := fun b x e => by
  rw [upd_ne (ne_of_none e h)]
  exact e
/-- the table of are_wishes or of is_stand has grown -/
theorem Ex.tabbed {T : Tbs} {H H' : Hp} (t : Tb T H) (a : T.Apart) {P : Addr} (hP : P = T.aw ∨ P = T.st) (h : GxR.Tabbed P H H') : Ex T H H' := by
  obtain ⟨h1, h2⟩ := h
  have kp : ∀ b o, b ≠ P → H b = some o → H' b = some o := fun b o n e => by rw [h2 b n]; exact e
  have kg : ∀ {Q : Addr}, Q ≠ P → GxR.TabG H Q → GxR.TabG H' Q := fun n ⟨ps, e, r⟩ => ⟨ps, kp _ _ n e, r⟩
  obtain ⟨ps0, e0⟩ : ∃ ps, H P = some (.tbl ps) := by
    rcases hP with e | e
    · rw [e]; exact TabG.tbl t.aw
    · rw [e]; exact TabG.tbl t.st
  have ks : ∀ {Q : Addr} {q : Str}, Q ≠ P → LamX.TabS H Q q → LamX.TabS H' Q q := fun n ⟨ps, e, r, s⟩ => ⟨ps, kp _ _ n e, r, fun pos cv hc => by
    obtain ⟨c, e1, e2⟩ := s pos cv hc
    exact ⟨c, e1, kp _ _ (fun z => by rw [z, e0] at e2; exact LamX.codeO_ne ps0 (Option.some.inj e2).symm) e2⟩⟩
  refine ⟨fun b o e n => kp b o (fun z => n (by rw [z]; rcases hP with e | e <;> rw [e]; exact .inl rfl; exact .inr (.inl rfl))) e, ?_⟩
  rcases hP with e | e
  · subst e
    exact ⟨h1, kg a.h1.symm t.st, ks a.h2.symm t.pl, ks a.h3.symm t.pf, ks a.h4.symm t.pw⟩
  · subst e
    exact ⟨kg a.h1 t.aw, h1, ks a.h5.symm t.pl, ks a.h6.symm t.pf, ks a.h7.symm t.pw⟩
/-- a lambda's table has grown -/
theorem Ex.lam {T : Tbs} {H H' : Hp} (t : Tb T H) (a : T.Apart) {P : Addr} {q : Str} (hP : (P = T.pl ∧ q = qLast) ∨ (P = T.pf ∧ q = qFar) ∨ (P = T.pw ∧ q = qWorst)) (kp : ∀ b o, b ≠ P → H b = some o → H' b = some o) (h1 : LamX.TabS H' P q) : Ex T H H' := by
  have kg : ∀ {Q : Addr}, Q ≠ P → GxR.TabG H Q → GxR.TabG H' Q := fun n ⟨ps, e, r⟩ => ⟨ps, kp _ _ n e, r⟩
  obtain ⟨ps0, e0⟩ : ∃ ps, H P = some (.tbl ps) := by
    rcases hP with ⟨e, _⟩ | ⟨e, _⟩ | ⟨e, _⟩
    · rw [e]; exact TabS.tbl t.pl
    · rw [e]; exact TabS.tbl t.pf
    · rw [e]; exact TabS.tbl t.pw
  have ks : ∀ {Q : Addr} {q : Str}, Q ≠ P → LamX.TabS H Q q → LamX.TabS H' Q q := fun n ⟨ps, e, r, s⟩ => ⟨ps, kp _ _ n e, r, fun pos cv hc => by
    obtain ⟨c, e1, e2⟩ := s pos cv hc
    exact ⟨c, e1, kp _ _ (fun z => by rw [z, e0] at e2; exact LamX.codeO_ne ps0 (Option.some.inj e2).symm) e2⟩⟩
  refine ⟨fun b o e n => kp b o (fun z => n (by rw [z]; rcases hP with ⟨e, _⟩ | ⟨e, _⟩ | ⟨e, _⟩ <;> rw [e]; exact .inr (.inr (.inl rfl)); exact .inr (.inr (.inr (.inl rfl))); exact .inr (.inr (.inr (.inr rfl))))) e, ?_⟩
  rcases hP with ⟨e, e'⟩ | ⟨e, e'⟩ | ⟨e, e'⟩
  · subst e e'
    exact ⟨kg a.h2 t.aw, kg a.h5 t.st, h1, ks a.h8.symm t.pf, ks a.h9.symm t.pw⟩
  · subst e e'
    exact ⟨kg a.h3 t.aw, kg a.h6 t.st, ks a.h8 t.pl, h1, ks a.h10.symm t.pw⟩
  · subst e e'
    exact ⟨kg a.h4 t.aw, kg a.h7 t.st, ks a.h9 t.pl, ks a.h10 t.pf, h1⟩
end K13
namespace K13
open PySem PySem.Spec PyProof.Rows L2
/-- the built-ins are still themselves, the module's two numbers -/
structure Tx (mg : Str → Option Value) : Prop where
  isi : mg "isinstance" = none
  int : mg "int" = none
  bool : mg "bool" = none
  tuple : mg "tuple" = none
  list : mg "list" = none
  len : mg "len" = none
  all : mg "all" = none
  sorted : mg "sorted" = none
  enum : mg "enumerate" = none
  zip : mg "zip" = none
  max : mg "max" = none
  min : mg "min" = none
  range : mg "range" = none
  dict : mg "dict" = none
  str : mg "str" = none
  lo : ∃ t, mg "LEAST_SIZE" = some (.int 2 t)
  hi : ∃ t, mg "MOST_SIZE" = some (.int 9 t)
section
variable {P : Program} {w : World} {K : PySem.W.Frag} {mg : Str → Option Value} {base : Heap}
/-! ### is_in -/
def spIsIn : Sp := fun vs H Q _ => ∃ i lo hi : Int, vs = [.int i, .int lo, .int hi] ∧ Q (.bl (decide (lo ≤ i) && decide (i ≤ hi))) H
theorem sc_isin : FnScope ["value", "least", "most"] ["value", "least", "most"] (defScope sIsIn) := ⟨rfl, rfl, rfl, by decide +kernel, rfl, by decide +kernel, by decide +kernel⟩
theorem ok_isin {f : Addr} {fd : FuncData} (D : De K mg "is_in" sIsIn ["value", "least", "most"] f fd) (T : Tx mg) : FnOk P w K mg base CX0 1 f fd ["value", "least", "most"] spIsIn := by
  refine D.F.ok sc_isin (fun vs H Q E h => ?_) (fun cdv A outer s H vs Q E hr h => ?_)
  · obtain ⟨i, lo, hi, rfl, _⟩ := h
    rfl
  · obtain ⟨i, lo, hi, rfl, q⟩ := h
    refine ⟨_, pss_one (ps_ret (pe_and (pe_callB call_isi (by rfl) T.isi (by decide +kernel) (pa_cons (pv 0) (pa_cons (pe_bltn (v := .ty "int") (by rfl) T.int (by decide +kernel) rfl) pa_nil)))
      (pe_and (pe_not (pe_callB call_isi (by rfl) T.isi (by decide +kernel) (pa_cons (pv 0) (pa_cons (pe_bltn (v := .ty "bool") (by rfl) T.bool (by decide +kernel) rfl) pa_nil))))
        (pe_one (pe_chain op_le op_le (pv 1) (pv 0) (pv 2)))))), ?_⟩
    refine ⟨.int i, rfl, .int i, .ty "int", .type "int", .type "int", true, rfl, .ty _, .base (.int i), kit_ty (by decide +kernel), true, rfl, iteT ?_⟩
    refine ⟨.int i, rfl, .int i, .ty "bool", .type "int", .type "bool", false, rfl, .ty _, .base (.int i), kit_ty (by decide +kernel), false, rfl, true, rfl, iteT ?_⟩
    refine ⟨.int lo, rfl, .int i, rfl, lo, i, rfl, rfl, _, rfl, ?_⟩
    cases hb : decide (lo ≤ i) with
    | false =>
      refine iteF ?_
      rw [hb] at q
      exact q
    | true =>
      refine iteT ⟨.int hi, rfl, i, hi, rfl, rfl, ?_⟩
      rw [hb] at q
      exact q
/-! ### need_size -/
def spNeedSize : Sp := fun vs H Q _ => ∃ n : Int, vs = [.int n] ∧ 2 ≤ n ∧ n ≤ 9 ∧ Q .non H
theorem sc_needsize : FnScope ["size"] ["size"] (defScope sNeedSize) := ⟨rfl, rfl, rfl, by decide +kernel, rfl, by decide +kernel, by decide +kernel⟩
theorem ok_needsize {f fI : Addr} {fd fdI : FuncData} (D : De K mg "need_size" sNeedSize ["size"] f fd) (DI : De K mg "is_in" sIsIn ["value", "least", "most"] fI fdI) (T : Tx mg) : FnOk P w K mg base CX0 2 f fd ["size"] spNeedSize := by
  have GI : FnOk P w K mg base CX0 1 fI fdI ["value", "least", "most"] spIsIn := ok_isin DI T
  obtain ⟨tl, hl⟩ := T.lo
  obtain ⟨th, hh⟩ := T.hi
  refine D.F.ok sc_needsize (fun vs H Q E h => ?_) (fun cdv A outer s H vs Q E hr h => ?_)
  · obtain ⟨n, rfl, _⟩ := h
    rfl
  · obtain ⟨n, rfl, h1, h2, q⟩ := h
    refine ⟨_, pss_one (ps_if (pt_not (pt_val (pe_call GI hr (by rfl) DI.g DI.F.kp DI.b .nil pass0 (pa_cons (pv 0) (pa_cons (pe_glob (v := .int 2) (by rfl) hl ⟨_, rfl⟩) (pa_cons (pe_glob (v := .int 9) (by rfl) hh ⟨_, rfl⟩) pa_nil)))))) (pss_one ps_never) pss_nil), ?_⟩
    refine ⟨.int n, rfl, n, 2, 9, rfl, true, ?_, iteF q⟩
    rw [decide_eq_true h1, decide_eq_true h2]
    rfl
/-! ### are_wishes -/
theorem isinDef {f : Addr} {fd : FuncData} (D : De K mg "is_in" sIsIn ["value", "least", "most"] f fd) : IsInDef K f := by
  obtain ⟨oc, od, kV, doc, pm, an, cdv, ct, osl, rfl, lk, hcd⟩ := D.F.ex
  exact ⟨oc, od, _, _, kV, doc, pm, cdv, ct, an, osl, _, _, _, _, _, _, _, _, _, _, _, _, _, _, _, lk, hcd, fun v a b => rfl, rfl, rfl, rfl, by decide +kernel, by decide +kernel, by decide +kernel, by decide +kernel, by decide +kernel, by decide +kernel, by decide +kernel⟩
def spAreWishes (T : Tbs) (K : PySem.W.Frag) : Sp := fun vs H Q _ => ∃ (n : Int) (a : Addr) (ws : List Int), vs = [.int n, .ref a] ∧ SqT K H a (ws.map V.int) ∧ (ws.length : Int) ≤ n ∧ WsOk n ws ∧ Tb T H ∧ ∀ H', Ex T H H' → Q (.bl true) H'
theorem sc_arewishes : FnScope ["size", "value"] ["size", "value"] (defScope sAreWishes) := ⟨rfl, rfl, rfl, by decide +kernel, rfl, by decide +kernel, by decide +kernel⟩
theorem tyT {H : Hp} {a : Addr} {xs : List V} (h : SqT K H a xs) : TyX K H (.ref a) (.type "tuple") := by
  rcases h with (h | ⟨o, h⟩) | ⟨o, its, n, h, hc, _⟩
  · exact .base (.tup h)
  · exact .fTuple h
  · exact .kTuple h hc
theorem ok_arewishes {f fI c : Addr} {fd fdI : FuncData} {T : Tbs} (D : DeC K mg "are_wishes" sAreWishes ["size", "value"] f fd c) (DI : De K mg "is_in" sIsIn ["value", "least", "most"] fI fdI) (X : Tx mg) (a : T.Apart) (TB : LamX.TabB base mg c T.aw) :
    FnOk P w K mg base CX0 1 f fd ["size", "value"] (spAreWishes T K) := by
  refine D.ok sc_arewishes (fun vs H Q E h => ?_) (fun A outer s H vs Q E hr h => ?_)
  · obtain ⟨n, a, ws, rfl, _⟩ := h
    rfl
  · obtain ⟨n, av, ws, rfl, hS, hlen, hw, tb, q⟩ := h
    refine ⟨_, pss_one (ps_ret (pe_and (pe_callB call_isi (by rfl) X.isi (by decide +kernel) (pa_cons (pv 1) (pa_cons (pe_bltn (v := .ty "tuple") (by rfl) X.tuple (by decide +kernel) rfl) pa_nil)))
      (pe_and (pe_cmpR op_le (pe_callB call_len_seq (by rfl) X.len PySem.boot_len (pa_cons (pv 1) pa_nil)) (pv 0) (nomark _))
        (pe_one (pe_allT (kz := 0) (P := T.aw) (c := c) hr (by rfl) X.all ⟨TB.code, TB.bm, TB.gP⟩ rfl ⟨rfl, rfl, by decide +kernel, by decide +kernel, by decide +kernel, fun y hy e => ?_⟩ (pv 1) rfl (show (defScope sAreWishes).names.lookup ("size" : Str) = some .cell by decide +kernel) (fun m => elt_isin (isinDef DI) DI.g DI.F.kp rfl X.isi X.int X.bool rfl (by decide +kernel) (by decide +kernel) (by decide +kernel) (by decide)) (fun v => rfl)))))), ?_⟩
    · have : y.1 = ("size" : Str) := by
        have h1 : ∀ z ∈ ([(Str.ofString ".0", NameKind.local), (Str.ofString "one", NameKind.local), (Str.ofString "size", NameKind.free), (Str.ofString "is_in", NameKind.globalImplicit)] : List (Str × NameKind)), z.2 = .free → z.1 = ("size" : Str) := by decide +kernel
        exact h1 y hy e
      rw [this]
      exact cell_has (by decide +kernel)
    refine ⟨.ref av, rfl, .ref av, .ty "tuple", .type "tuple", .type "tuple", true, rfl, .ty _, tyT hS, kit_ty (by decide +kernel), true, rfl, iteT ?_⟩
    refine ⟨.ref av, rfl, av, _, rfl, .inr hS, .int n, rfl, _, n, rfl, rfl, true, ?_, iteT ?_⟩
    · rw [List.length_map]
      exact congrArg V.bl (decide_eq_true hlen)
    · refine ⟨.ref av, rfl, av, ws, n, rfl, hS, rfl, tb.aw, fun H2 ht => ?_⟩
      have e : (ws.all fun i => decide (0 ≤ i) && decide (i ≤ n - 1)) = true := by
        rw [List.all_eq_true]
        intro x hx
        have := hw x hx
        rw [Bool.and_eq_true]
        exact ⟨decide_eq_true this.1, decide_eq_true (by omega)⟩
      rw [e]
      exact q H2 (.tabbed tb a (.inl rfl) ht)
end
end K13
namespace K13
open PySem PySem.Spec PyProof.Rows L2
section
variable {P : Program} {w : World} {K : PySem.W.Frag} {mg : Str → Option Value} {base : Heap}
/-! ### need_wishes -/
def spNeedWishes (T : Tbs) (K : PySem.W.Frag) : Sp := fun vs H Q _ => ∃ (n : Int) (a : Addr) (ws : List Int), vs = [.int n, .ref a] ∧ 2 ≤ n ∧ n ≤ 9 ∧ SqT K H a (ws.map V.int) ∧ (ws.length : Int) ≤ n ∧ WsOk n ws ∧ Tb T H ∧ ∀ H', Ex T H H' → Q .non H'
theorem sc_needwishes : FnScope ["size", "wishes"] ["size", "wishes"] (defScope sNeedWishes) := ⟨rfl, rfl, rfl, by decide +kernel, rfl, by decide +kernel, by decide +kernel⟩
theorem ok_needwishes {T : Tbs} {f fS fA : Addr} {fd fdS fdA : FuncData} (D : De K mg "need_wishes" sNeedWishes ["size", "wishes"] f fd) (DS : De K mg "need_size" sNeedSize ["size"] fS fdS) (gA : mg "are_wishes" = some (.ref fA)) (kA : PySem.W.keepIn K (.ref fA) = true) (bA : Binds K fdA ["size", "value"] [])
    (GS : FnOk P w K mg base CX0 2 fS fdS ["size"] spNeedSize) (GA : FnOk P w K mg base CX0 1 fA fdA ["size", "value"] (spAreWishes T K)) : FnOk P w K mg base CX0 3 f fd ["size", "wishes"] (spNeedWishes T K) := by
  refine D.F.ok sc_needwishes (fun vs H Q E h => ?_) (fun cdv A outer s H vs Q E hr h => ?_)
  · obtain ⟨n, a, ws, rfl, _⟩ := h
    rfl
  · obtain ⟨n, a, ws, rfl, h1, h2, hS, hl, hw, tb, q⟩ := h
    refine ⟨_, pss_cons (ps_expr (pe_call GS hr (by rfl) DS.g DS.F.kp DS.b .nil pass0 (pa_cons (pv 0) pa_nil)))
      (pss_one (ps_if (pt_not (pt_val (pe_call GA (hr.mono (by decide)) (by rfl) gA kA bA .nil pass0 (pa_cons (pv 0) (pa_cons (pv 1) pa_nil))))) (pss_one ps_never) pss_nil)), ?_⟩
    refine ⟨.int n, rfl, n, rfl, h1, h2, ?_⟩
    refine ⟨.int n, rfl, .ref a, rfl, n, a, ws, rfl, hS, hl, hw, tb, fun H' e => ?_⟩
    exact ⟨true, rfl, iteF (q H' e)⟩
/-! ### spots_of -/
theorem nxt_no {n : Int} {l : List Int} {p : Int} (h : ¬ p ∈ l) (f : Nat) : nxt n f l p = p := by
  cases f with
  | zero => rfl
  | succ f => exact if_neg h
theorem nxt_yes {n : Int} {l : List Int} {p : Int} (h : p ∈ l) (f : Nat) : nxt n (f + 1) l p = nxt n f l ((p + 1) % n) := if_pos h
theorem get_ws {ws : List Int} {i : Nat} {x : V} (h : (ws.map V.int)[i]? = some x) : i < ws.length ∧ x = .int (at0 ws i) := by
  rw [List.getElem?_map] at h
  cases e : ws[i]? with
  | none => rw [e] at h; cases h
  | some z =>
    rw [e] at h
    have hi := (List.getElem?_eq_some_iff.mp e).1
    have e2 := at0_get hi
    rw [e] at e2
    cases e2
    exact ⟨hi, (Option.some.inj h).symm⟩
def spSpots (K : PySem.W.Frag) : Sp := fun vs H Q _ => ∃ (n : Int) (a : Addr) (ws : List Int), vs = [.int n, .ref a] ∧ 0 < n ∧ SqT K H a (ws.map V.int) ∧ (ws.length : Int) ≤ n ∧ n ≤ 9 ∧ WsOk n ws ∧
  ∀ H' p, Same H H' → H p = none → H' p = some (.lst ((sp n ws).map V.int)) → Q (.ref p) H'
theorem sc_spots : FnScope ["size", "wishes", "found", "taken", "wish"] ["size", "wishes"] (defScope sSpotsOf) := ⟨rfl, rfl, rfl, by decide +kernel, rfl, by decide +kernel, by decide +kernel⟩
theorem ok_spots {f : Addr} {fd : FuncData} (D : De K mg "spots_of" sSpotsOf ["size", "wishes"] f fd) : FnOk P w K mg base CX0 1 f fd ["size", "wishes"] (spSpots K) := by
  refine D.F.ok sc_spots (fun vs H Q E h => ?_) (fun cdv A outer s H vs Q E hr h => ?_)
  · obtain ⟨n, a, ws, rfl, _⟩ := h
    rfl
  · obtain ⟨n, a, ws, rfl, hn, hS, hl, hn9, hw, q⟩ := h
    have hu := hu_of hr
    refine ⟨_, pss_cons (ps_par (i := 2) (j := 3) (by rfl) sc_spots.nd rfl rfl (by decide) rfl rfl (pa_cons (pe_lst pa_nil) (pa_cons pe_dnewK pa_nil)) (by rfl))
      (pss_cons (ps_for PassesOwn.never rfl (pi_tup (pv 1)) (pg_name (i := 4) sc_spots.nd rfl (.inl rfl))
        (pss_cons (ps_while PassesOwn.never (pt_cmp (pc_din hu (pv 4) (pv 3)) rfl) (pss_one (ps_set (i := 4) sc_spots.nd rfl (.inl rfl) (pe_op op_mod (pe_op op_add (pv 4) pe_int) (pv 0)))))
        (pss_cons (ps_dput hu (pv 3) (pv 4) pe_bl rfl)
        (pss_one (ps_expr (pe_bm PySem.F.plainAttrs_list PySem.F.slot_list_append PySem.F.type_list_append mt_append (pv 2) (pa_cons (pv 4) pa_nil)))))))
      (pss_one (ps_ret (pv 2)))), ?_⟩
    refine ⟨Nat.zero_le _, fun l nl d nd => ⟨_, _, rfl, ?_⟩⟩
    have ndl : d ≠ l := fun e => by rw [e, upd_same] at nd; cases nd
    have nd0 : H d = none := by rw [upd_ne ndl] at nd; exact nd
    refine ⟨.ref a, rfl, a, rfl, ⟨_, sameT (same_upd nd) (sameT (same_upd nl) hS)⟩, for_tup (K := K) (a := a) (xs := ws.map V.int) (fun i σ H1 => ∃ y, σ = [some (.int n), some (.ref a), some (.ref l), some (.ref d), y] ∧ Same H H1 ∧ H1 l = some (.lst ((spk n ws i).map V.int)) ∧
      ∃ kvs : List (L2.Key × V), H1 d = some (.dK kvs) ∧ kvs.length ≤ i ∧ ∀ p : Int, (valV kvs (.inl p)).isSome = true ↔ p ∈ spk n ws i) ?_ ?_ ?_ ?_⟩
    · refine ⟨none, rfl, fun b o e => same_upd nd _ _ (same_upd nl _ _ e), ?_, [], upd_same, Nat.le_refl _, fun p => ?_⟩
      · rw [upd_ne ndl.symm, upd_same]
        rfl
      · rw [valV_nil]
        simp [spk]
    · rintro i σ H1 _ ⟨y, _, sm, _⟩
      exact sameT sm hS
    · rintro i x σ H1 hx ⟨y, rfl, sm, hL, kvs, hd, hkl, hk⟩
      obtain ⟨hi, rfl⟩ := get_ws hx
      have hwi := hw.at_ hi
      have KN := know (stay := lastS) hn hw hl i (by omega)
      have F := KN.fr hn hw hi hl
      -- while wish in taken
      refine ⟨fun m σ' H' => ∃ p, σ' = [some (.int n), some (.ref a), some (.ref l), some (.ref d), some (.int p)] ∧ H' = H1 ∧ nxt n m (spk n ws i) p = nxt n n.toNat (spk n ws i) (at0 ws i) ∧ Fr n m (stt lastS n ws i).1 p ∧ 0 ≤ p ∧ p < n,
        ⟨n.toNat, at0 ws i, rfl, rfl, rfl, F, hwi.1, hwi.2⟩, ?_⟩
      rintro m σ' H' ⟨p, rfl, rfl, e, hf, p0, p1⟩
      refine ⟨.int p, rfl, .ref d, rfl, d, _, rfl, DGet.k (k := Sum.inl p) hd, _, rfl, ?_⟩
      by_cases hp : p ∈ spk n ws i
      · rw [(hk p).mpr hp]
        refine iteT ?_
        obtain ⟨m', rfl⟩ : ∃ m', m = m' + 1 := by
          cases m with
          | zero => exact absurd hf ((KN.keys p).mpr hp)
          | succ m' => exact ⟨m', rfl⟩
        refine ⟨fun σ'' H'' => σ'' = [some (.int n), some (.ref a), some (.ref l), some (.ref d), some (.int ((p + 1) % n))] ∧ H'' = H', ?_, ?_⟩
        · rintro σ'' H'' ⟨rfl, rfl⟩
          refine ⟨m', Nat.lt_succ_self _, _, rfl, rfl, ?_, ?_, Int.emod_nonneg _ (by omega), Int.emod_lt_of_pos _ hn⟩
          · rw [← e, nxt_yes hp]
          · rcases hf with z | z
            · exact absurd z ((KN.keys p).mpr hp)
            · exact z
        · exact ⟨.int p, rfl, p, 1, rfl, rfl, .int n, rfl, p + 1, n, rfl, rfl, hn, rfl, rfl⟩
      · have hb : (valV kvs (.inl p)).isSome = false := by
          cases hz : (valV kvs (.inl p)).isSome with
          | false => rfl
          | true => exact absurd ((hk p).mp hz) hp
        rw [hb]
        refine iteF ?_
        rw [nxt_no hp] at e
        subst e
        -- taken[wish] = True
        refine ⟨.ref d, rfl, .int _, rfl, d, _, rfl, DPut.k (k := Sum.inl _) hd (Nat.lt_of_le_of_lt hkl (by rw [sizeLine_eq]; omega)), ?_⟩
        -- found.append(wish)
        have nld : l ≠ d := ndl.symm
        have hL' : upd H' d (.dK (putK kvs (.inl (nxt n n.toNat (spk n ws i) (at0 ws i))) (.bl true))) l = some (.lst ((spk n ws i).map V.int)) := by
          rw [upd_ne nld]
          exact hL
        refine ⟨.ref l, rfl, .inl ⟨rfl, _, SqL.of hL'⟩, .int _, rfl, l, _, _, rfl, rfl, hL', ?_, ?_⟩
        · rw [List.length_map, spk_len, sizeLine_eq]
          omega
        · refine ⟨some (.int _), rfl, fun b o eb => ?_, ?_, putK kvs (.inl (nxt n n.toNat (spk n ws i) (at0 ws i))) (.bl true), ?_, ?_, fun p' => ?_⟩
          · rw [upd_ne (ne_of_none eb nl), upd_ne (ne_of_none eb nd0)]
            exact sm b o eb
          · rw [upd_same]
            show _ = some (HO.lst ((spk n ws i ++ [_]).map V.int))
            rw [List.map_append]
            rfl
          · rw [upd_ne ndl, upd_same]
          · have := length_putK kvs (Sum.inl (nxt n n.toNat (spk n ws i) (at0 ws i)) : L2.Key) (.bl true)
            omega
          · rw [valV_put]
            show _ ↔ p' ∈ spk n ws i ++ [_]
            rw [List.mem_append, List.mem_singleton]
            by_cases ep : p' = nxt n n.toNat (spk n ws i) (at0 ws i)
            · rw [if_pos (by rw [ep])]
              simp [ep]
            · rw [if_neg (fun z => ep (Sum.inl.inj z)), hk p']
              simp [ep]
    · rintro σ H1 ⟨y, rfl, sm, hL, _⟩
      refine ⟨.ref l, rfl, q H1 l sm nl ?_⟩
      rw [List.length_map] at hL
      exact hL
end
end K13
namespace K13
open PySem PySem.Spec PyProof.Rows L2
/-- the dict says of each place which car stands there -/
def Rep (kvs : List (L2.Key × V)) (m : Int → Option Nat) : Prop := ∀ p : Int, valV kvs (.inl p) = (m p).map fun c => V.int (c : Int)
theorem Rep.put {kvs : List (L2.Key × V)} {m : Int → Option Nat} (h : Rep kvs m) (p : Int) (c : Nat) : Rep (putK kvs (.inl p) (.int (c : Int))) (put m p c) := fun q => by
  rw [valV_put]
  by_cases e : q = p
  · subst e
    rw [if_pos rfl, put_same]
    rfl
  · rw [if_neg (fun z => e (Sum.inl.inj z)), put_ne e]
    exact h q
theorem Rep.over {kvs : List (L2.Key × V)} {m : Int → Option Nat} (h : Rep kvs m) {p : Int} {o : Nat} (hm : m p = some o) (v : V) : (putK kvs (.inl p) v).length = kvs.length := by
  have e : (valV kvs (Sum.inl p : L2.Key)).isSome = true := by
    rw [h p, hm]
    rfl
  unfold putK
  rw [if_pos (by rw [valV_any]; exact e), List.length_map]
theorem ixN_of {n j : Nat} (hj : j < n) : ixN n (j : Int) = some j := by
  unfold ixN
  rw [if_pos (by omega), if_pos (by omega)]
  simp
theorem at_int {l : List Int} {j : Nat} (hj : j < l.length) : atI (l.map V.int) (j : Int) = some (.int (at0 l j)) := atI_nat (by rw [List.getElem?_map, at0_get hj]; rfl)
section
variable {P : Program} {w : World} {K : PySem.W.Frag} {mg : Str → Option Value} {base : Heap}
def spSettled (P : Program) (w : World) (K : PySem.W.Frag) : Sp := fun vs H Q _ => ∃ (n : Int) (a f : Addr) (ws : List Int) (stay : Int → Int → Bool) (q : Str) (c' : Addr), vs = [.int n, .ref a, .ref f] ∧ 0 < n ∧ n ≤ 9 ∧ SqT K H a (ws.map V.int) ∧ (ws.length : Int) ≤ n ∧ WsOk n ws ∧
  H f = some (LamO P w stay q c' f) ∧ H c' = some (LamX.CodeO c' q) ∧ ∀ H' p, Same H H' → H p = none → H' p = some (.lst ((res stay n ws).map V.int)) → Q (.ref p) H'
theorem sc_settled : FnScope ["size", "wishes", "stays", "wish", "held", "gone", "index", "car", "place", "other", "steps"] ["size", "wishes", "stays"] (defScope sSettled) := ⟨rfl, rfl, rfl, by decide +kernel, rfl, by decide +kernel, by decide +kernel⟩
theorem ok_settled {f : Addr} {fd : FuncData} (D : De K mg "settled" sSettled ["size", "wishes", "stays"] f fd) (X : Tx mg) : FnOk P w K mg base CX0 1 f fd ["size", "wishes", "stays"] (spSettled P w K) := by
  refine D.F.ok sc_settled (fun vs H Q E h => ?_) (fun cdv A outer s H vs Q E hr h => ?_)
  · obtain ⟨n, a, f, ws, stay, qq, c', rfl, _⟩ := h
    rfl
  · obtain ⟨n, a, lf, ws, stay, qq, c', rfl, hn, hn9, hS, hl, hw, hF, hC, q⟩ := h
    have hu := hu_of hr
    refine ⟨_, pss_cons (ps_par (i := 4) (j := 5) (by rfl) sc_settled.nd rfl rfl (by decide) rfl rfl (pa_cons pe_dnewK (pa_cons (pe_lc (own := [("wish", 3)]) (g := gName 3) (tt := tYes) rfl sc_settled.nd (pi_tup (pv 1)) (blkOk_by (N := ["size", "wishes", "stays", "wish", "held", "gone", "index", "car", "place", "other", "steps"]) (sc := defScope sSettled) (by decide +kernel))
          (fun _ _ _ _ _ => pg_name (i := 3) sc_settled.nd rfl (.inl rfl)) (fun _ _ _ _ _ => pts_nil) (fun _ _ _ _ _ => pe_int)) pa_nil)) (by rfl))
      (pss_cons (ps_for PassesOwn.never rfl (pi_enumT (by rfl) X.enum (pa_cons (pv 1) pa_nil)) (pg_tup rfl (pgs_cons (pg_name (i := 6) sc_settled.nd rfl (.inl rfl)) (pgs_cons (pg_name (i := 3) sc_settled.nd rfl (.inl rfl)) pgs_nil)))
        (pss_cons (ps_par (i := 7) (j := 8) (by rfl) sc_settled.nd rfl rfl (by decide) rfl rfl (pa_cons (pv 6) (pa_cons (pv 3) pa_nil)) (by rfl))
        (pss_cons (ps_while PassesOwn.never (pt_cmp (pc_din hu (pv 8) (pv 4)) rfl)
          (pss_cons (ps_set (i := 9) sc_settled.nd rfl (.inl rfl) (pe_dget hu (pv 4) (pv 8) (fun _ _ => rfl)))
          (pss_cons (ps_if (pt_not (pt_val (pe_actL (i := 2) hr rfl (.inl rfl) (pa_cons (pe_ix ix_list (pv 5) (pv 9) (fun _ _ => rfl)) (pa_cons (pe_ix ix_list (pv 5) (pv 7) (fun _ _ => rfl)) pa_nil)))))
            (pss_one (ps_asg (pe_tup (pa_cons (pv 7) (pa_cons (pv 9) pa_nil))) (pg_tup rfl (pgs_cons (pg_sub (pv 4) (pv 8) (set_dict hu)) (pgs_cons (pg_name (i := 7) sc_settled.nd rfl (.inl rfl)) pgs_nil))))) pss_nil)
          (pss_cons (ps_asg (pe_op op_add (pe_ix ix_list (pv 5) (pv 7) (fun _ _ => rfl)) pe_int) (pg_sub (pv 5) (pv 7) set_list))
          (pss_one (ps_set (i := 8) sc_settled.nd rfl (.inl rfl) (pe_op op_mod (pe_op op_add (pv 8) pe_int) (pv 0))))))))
        (pss_one (ps_dput hu (pv 4) (pv 8) (pv 7) rfl)))))
      (pss_one (ps_ret (pe_lc (own := [("wish", 3), ("steps", 10)]) (g := gTup K 2 (gCons (gName 3) (gCons (gName 10) gNil))) (tt := tYes) rfl sc_settled.nd (pi_zipB false true (by rfl) X.zip (pa_cons (pv 1) (pa_cons (pv 5) pa_nil))) (blkOk_by (N := ["size", "wishes", "stays", "wish", "held", "gone", "index", "car", "place", "other", "steps"]) (sc := defScope sSettled) (by decide +kernel))
          (fun _ _ _ _ _ => pg_tup rfl (pgs_cons (pg_name (i := 3) sc_settled.nd rfl (.inl rfl)) (pgs_cons (pg_name (i := 10) sc_settled.nd rfl (.inl rfl)) pgs_nil))) (fun _ _ _ _ _ => pts_nil) (fun _ _ _ _ _ => pe_op op_mod (pe_op op_add (pv 3) (pv 10)) (pv 0)))))), ?_⟩
    -- held, gone = {}, [0 for wish in wishes]
    refine fun d nd => ⟨.ref a, rfl, a, rfl, ⟨_, sameT (same_upd nd) hS⟩, fun g ng => lc_tup (K := K) (a := a) (xs := ws.map V.int) (fun i H1 => Same H H1 ∧ H1 d = some (.dK []) ∧ H1 g = some (.lst ((List.replicate i (0 : Int)).map V.int))) ?_ ?_ ?_ ?_⟩
    · have ngd : g ≠ d := fun e => by rw [e, upd_same] at ng; cases ng
      refine ⟨fun b o e => same_upd ng _ _ (same_upd nd _ _ e), ?_, upd_same⟩
      rw [upd_ne ngd.symm, upd_same]
    · rintro i H1 _ ⟨sm, _⟩
      exact sameT sm hS
    · rintro i x H1 hx ⟨sm, hd, hg⟩
      have ngd : g ≠ d := fun e => by rw [e, hd] at hg; cases hg
      have hi := (get_ws hx).1
      have ngH : H g = none := by rw [upd_ne ngd] at ng; exact ng
      refine ⟨rfl, _, hg, ?_, fun b o e => ?_, ?_, ?_⟩
      · rw [List.length_map, List.length_replicate, sizeLine_eq]
        omega
      · rw [upd_ne (ne_of_none e ngH)]
        exact sm b o e
      · rw [upd_ne ngd.symm]
        exact hd
      · rw [upd_same, List.replicate_succ', List.map_append]
        rfl
    rintro H1 ⟨sm1, hd1, hg1⟩
    have ngd : g ≠ d := fun e => by rw [e, hd1] at hg1; cases hg1
    have ngH : H g = none := by rw [upd_ne ngd] at ng; exact ng
    rw [List.length_map] at hg1
    refine ⟨_, _, rfl, ?_⟩
    -- for index, wish in enumerate(wishes)
    refine ⟨.ref a, rfl, a, ws.map V.int, rfl, sameT sm1 hS, for_it (walk_enumT (K := K) (a := a) (xs := ws.map V.int)) (fun i σ H2 => ∃ y3 y6 y7 y8 y9 y10, σ = [some (.int n), some (.ref a), some (.ref lf), y3, some (.ref d), some (.ref g), y6, y7, y8, y9, y10] ∧ Same H H2 ∧
      H2 g = some (.lst ((stt stay n ws i).2.map V.int)) ∧ ∃ kvs, H2 d = some (.dK kvs) ∧ kvs.length ≤ i ∧ Rep kvs (stt stay n ws i).1) ?_ ?_ ?_ ?_⟩
    · exact ⟨none, none, none, none, none, none, rfl, sm1, hg1, [], hd1, Nat.le_refl _, fun p => rfl⟩
    · rintro i σ H2 _ ⟨_, _, _, _, _, _, _, sm, _⟩
      exact sameT sm hS
    · rintro i x σ H2 H3 hi ⟨y3, y6, y7, y8, y9, y10, rfl, sm2, hg2, kvs, hd2, hkl, hrep⟩ ⟨T, x1, x2, rfl, nT, rfl, f1, f2⟩
      rw [List.length_map] at hi
      cases (Option.some.inj f1 : V.int (i : Int) = x1)
      obtain ⟨_, rfl⟩ := get_ws f2
      have hwi := hw.at_ hi
      have KN := know (stay := stay) hn hw hl i (by omega)
      have F := KN.fr hn hw hi hl
      refine ⟨T, _, rfl, .inl (.inl upd_same), rfl, _, _, rfl, _, _, rfl, rfl, ?_⟩
      -- car, place = index, wish
      refine ⟨_, rfl, _, rfl, _, _, rfl, ?_⟩
      -- while place in held
      have sm3 : Same H (upd H2 T (.tup [V.int (i : Int), V.int (at0 ws i)])) := sm2.trans (same_upd nT)
      refine ⟨fun m σ' H' => ∃ (y9 : Option V) (mm : Int → Option Nat) (gg : List Int) (c : Nat) (p : Int) (kvs : List (L2.Key × V)), σ' = [some (.int n), some (.ref a), some (.ref lf), some (.int (at0 ws i)), some (.ref d), some (.ref g), some (.int (i : Int)), some (.int (c : Int)), some (.int p), y9, y10] ∧ Same H H' ∧
        H' g = some (.lst (gg.map V.int)) ∧ H' d = some (.dK kvs) ∧ kvs.length ≤ i ∧ Rep kvs mm ∧ go stay n m mm gg c p = stt stay n ws (i + 1) ∧ Fr n m mm p ∧ Wa n ws i mm gg c p ∧ 0 ≤ p ∧ p < n, ⟨n.toNat, ?_⟩, ?_⟩
      · refine ⟨y9, _, _, i, at0 ws i, kvs, rfl, sm3, ?_, ?_, hkl, hrep, rfl, F, KN.wf.enter hw hi, hwi.1, hwi.2⟩
        · rw [upd_ne (ne_of_none hg2 nT)]
          exact hg2
        · rw [upd_ne (ne_of_none hd2 nT)]
          exact hd2
      rintro m σ' H' ⟨y9', mm, gg, c, p, kvs', rfl, sm, hg, hd, hkl', hrep', hgo, hf, wa, p0, p1⟩
      have hH : H' lf = some (LamO P w stay qq c' lf) := sm _ _ hF
      have hCC : H' c' = some (LamX.CodeO c' qq) := sm _ _ hC
      have hcl : c < gg.length := by rw [wa.len]; have := wa.ck; omega
      refine ⟨.int p, rfl, .ref d, rfl, d, _, rfl, DGet.k (k := Sum.inl p) hd, _, rfl, ?_⟩
      cases hm : mm p with
      | none =>
        have hv : valV kvs' (Sum.inl p : L2.Key) = none := by rw [hrep' p, hm]; rfl
        rw [hv]
        refine iteF ?_
        -- held[place] = car
        refine ⟨_, rfl, .ref d, rfl, .int p, rfl, d, _, rfl, DPut.k (k := Sum.inl p) hd (Nat.lt_of_le_of_lt hkl' (by rw [sizeLine_eq]; omega)), ?_⟩
        rw [go_none hm] at hgo
        refine ⟨_, _, _, _, _, _, rfl, fun b o e => ?_, ?_, _, upd_same, ?_, ?_⟩
        · rw [upd_ne (ne_of_none e nd)]
          exact sm b o e
        · rw [upd_ne ngd, ← hgo]
          exact hg
        · have := length_putK kvs' (Sum.inl p : L2.Key) (.int (c : Int))
          omega
        · rw [← hgo]
          exact hrep'.put p c
      | some o =>
        have hv : valV kvs' (Sum.inl p : L2.Key) = some (.int (o : Int)) := by rw [hrep' p, hm]; rfl
        rw [hv]
        obtain ⟨o1, o2, o3⟩ := wa.has p o hm
        have hol : o < gg.length := by rw [wa.len]; omega
        obtain ⟨m', rfl⟩ : ∃ m', m = m' + 1 := by
          cases m with
          | zero => rw [show mm p = none from hf] at hm; cases hm
          | succ m' => exact ⟨m', rfl⟩
        have hf' : Fr n m' mm ((p + 1) % n) := by
          rcases hf with z | z
          · rw [hm] at z; cases z
          · exact z
        have p0' : 0 ≤ (p + 1) % n := Int.emod_nonneg _ (by omega)
        have p1' : (p + 1) % n < n := Int.emod_lt_of_pos _ hn
        refine iteT ⟨_, fun σ'' H'' hN => hN, ?_⟩
        -- other = held[place]
        have hget : DGet H' d (.int p) (some (.int (o : Int))) := by
          have z := DGet.k (k := Sum.inl p) hd
          rw [hv] at z
          exact z
        refine ⟨.ref d, rfl, .int p, rfl, d, _, rfl, hget, ?_⟩
        -- if not stays(gone[other], gone[car])
        refine ⟨lf, stay, qq, c', rfl, hH, .ref g, rfl, .int (o : Int), rfl, g, _, _, _, rfl, rfl, SqL.of hg, at_int hol, .ref g, rfl, .int (c : Int), rfl, g, _, _, _, rfl, rfl, SqL.of hg, at_int hcl, at0 gg o, at0 gg c, rfl, hH, hCC, _, rfl, ?_⟩
        cases hs : stay (at0 gg o) (at0 gg c) with
        | false =>
          refine iteT ?_
          -- held[place], car = car, other
          refine ⟨.int (c : Int), rfl, .int (o : Int), rfl, by show 2 ≤ sizeLine; rw [sizeLine_eq]; decide, fun T2 nT2 => ?_⟩
          have hdT : (upd H' T2 (.tup [V.int (c : Int), V.int (o : Int)])) d = some (.dK kvs') := by rw [upd_ne (ne_of_none hd nT2)]; exact hd
          refine ⟨T2, _, rfl, .inl (.inl upd_same), rfl, .int (c : Int), [.int (o : Int)], rfl, .ref d, rfl, .int p, rfl, d, _, rfl, DPut.k (k := Sum.inl p) hdT (Nat.lt_of_le_of_lt hkl' (by rw [sizeLine_eq]; omega)), .int (o : Int), [], rfl, rfl, ?_⟩
          have hg3 : (upd (upd H' T2 (.tup [V.int (c : Int), V.int (o : Int)])) d (.dK (putK kvs' (Sum.inl p) (.int (c : Int))))) g = some (.lst (gg.map V.int)) := by rw [upd_ne ngd, upd_ne (ne_of_none hg nT2)]; exact hg
          -- gone[car] = gone[car] + 1
          refine ⟨.ref g, rfl, .int (o : Int), rfl, g, _, _, _, rfl, rfl, SqL.of hg3, at_int hol, _, _, rfl, rfl, .ref g, rfl, .int (o : Int), rfl, g, _, _, o, rfl, rfl, hg3, ixN_of (by rw [List.length_map]; exact hol), ?_⟩
          -- place = (place + 1) % size
          refine ⟨.int p, rfl, _, _, rfl, rfl, .int n, rfl, _, _, rfl, rfl, hn, ?_⟩
          refine ⟨m', Nat.lt_succ_self _, _, put mm p c, gg.set o (at0 gg o + 1), o, (p + 1) % n, putK kvs' (Sum.inl p) (.int (c : Int)), rfl, fun b ob e => ?_, ?_, ?_, ?_, hrep'.put p c, ?_, hf'.same (put_keys hm), wa.swap hi hm, p0', p1'⟩
          · rw [upd_ne (ne_of_none e ngH), upd_ne (ne_of_none e nd), upd_ne (ne_of_none (sm b ob e) nT2)]
            exact sm b ob e
          · rw [upd_same, List.map_set]
          · rw [upd_ne ngd.symm, upd_same]
          · rw [hrep'.over hm]
            exact hkl'
          · rw [← hgo, go_swap hm hs]
        | true =>
          refine iteF ?_
          -- gone[car] = gone[car] + 1
          refine ⟨.ref g, rfl, .int (c : Int), rfl, g, _, _, _, rfl, rfl, SqL.of hg, at_int hcl, _, _, rfl, rfl, .ref g, rfl, .int (c : Int), rfl, g, _, _, c, rfl, rfl, hg, ixN_of (by rw [List.length_map]; exact hcl), ?_⟩
          refine ⟨.int p, rfl, _, _, rfl, rfl, .int n, rfl, _, _, rfl, rfl, hn, ?_⟩
          refine ⟨m', Nat.lt_succ_self _, _, mm, gg.set c (at0 gg c + 1), c, (p + 1) % n, kvs', rfl, fun b ob e => ?_, ?_, ?_, hkl', hrep', ?_, hf', wa.stay (o := o) hi, p0', p1'⟩
          · rw [upd_ne (ne_of_none e ngH)]
            exact sm b ob e
          · rw [upd_same, List.map_set]
          · rw [upd_ne ngd.symm]
            exact hd
          · rw [← hgo, go_stay hm hs]
    · rintro σ H2 ⟨y3, y6, y7, y8, y9, y10, rfl, sm2, hg2, kvs, hd2, hkl, hrep⟩
      rw [List.length_map] at hg2
      have KN := know (stay := stay) hn hw hl ws.length (Nat.le_refl _)
      have hlen : (ws.map V.int).length = ((stt stay n ws ws.length).2.map V.int).length := by rw [List.length_map, List.length_map, KN.wf.len]
      -- return [(wish + steps) % size for wish, steps in zip(wishes, gone)]
      refine ⟨.ref a, rfl, .ref g, rfl, a, g, _, _, rfl, sameT sm2 hS, SqL.of hg2, fun D nD => lc_it (walk_zipB hlen) (fun i H3 => Same H2 H3 ∧ H3 D = some (.lst (((res stay n ws).take i).map V.int))) ?_ ?_ ?_ ?_⟩
      · exact ⟨same_upd nD, upd_same⟩
      · rintro i H3 _ ⟨sm3, _⟩
        exact ⟨sameT sm3 (sameT sm2 hS), SqL.of (sm3 _ _ hg2)⟩
      · rintro i x H3 H4 hi ⟨sm3, hD⟩ ⟨T, x1, x2, rfl, nT, rfl, f1, f2⟩
        rw [List.length_map] at hi
        obtain ⟨_, rfl⟩ := get_ws f1
        obtain ⟨_, rfl⟩ := get_ws f2
        refine ⟨T, _, rfl, .inl (.inl upd_same), rfl, _, _, rfl, _, _, rfl, rfl, rfl, ?_⟩
        refine ⟨_, rfl, _, rfl, _, _, rfl, rfl, .int n, rfl, _, _, rfl, rfl, hn, ((res stay n ws).take i).map V.int, ?_, ?_, fun b o e => ?_, ?_⟩
        · rw [upd_ne (ne_of_none hD nT)]
          exact hD
        · rw [List.length_map, List.length_take, res_len hn hw hl, sizeLine_eq]
          omega
        · rw [upd_ne (ne_of_none e nD), upd_ne (ne_of_none (sm3 b o e) nT)]
          exact sm3 b o e
        · rw [upd_same, List.take_add_one, res_get hn hw hl hi, List.map_append]
          rfl
      · rintro H3 ⟨sm3, hD⟩
        rw [List.length_map, List.take_of_length_le (by rw [res_len hn hw hl]; exact Nat.le_refl _)] at hD
        exact q H3 D (sm2.trans sm3) (sm2.free nD) hD
end
end K13
namespace K13
open PySem PySem.Spec PyProof.Rows L2
/-! ### two rows of ints compared -/
theorem eqvAll_ints : ∀ a b : List Int, PyData.eqvAll (a.map PyData.int) (b.map PyData.int) = decide (a = b)
  | [], [] => by simp [PyData.eqvAll]
  | [], _ :: _ => by simp [PyData.eqvAll]
  | _ :: _, [] => by simp [PyData.eqvAll]
  | x :: xs, y :: ys => by
    rw [List.map_cons, List.map_cons, PyData.eqvAll, eqvAll_ints xs ys]
    simp only [PyData.eqv]
    by_cases h : x = y
    · subst h
      by_cases h2 : xs = ys
      · subst h2; simp
      · simp [h2]
    · simp [h]
theorem canLay_ints : ∀ a : List Int, PyData.canLayAll0 (a.map PyData.int) = true
  | [] => rfl
  | x :: xs => by
    rw [List.map_cons, PyData.canLayAll0, canLay_ints xs]
    rfl
theorem depth_ints : ∀ a : List Int, PyData.depthAll (a.map PyData.int) ≤ 1
  | [] => by simp [PyData.depthAll]
  | x :: xs => by
    rw [List.map_cons, PyData.depthAll]
    have := depth_ints xs
    simp only [PyData.depth]
    omega
theorem shaped_list (a : List Int) : SeqAt.shaped (.list (a.map PyData.int)) = true := by
  unfold SeqAt.shaped
  rw [Bool.and_eq_true]
  have := depth_ints a
  refine ⟨?_, decide_eq_true ?_⟩
  · rw [PyData.canLay0]
    exact canLay_ints a
  · rw [PyData.depth]
    omega
theorem shaped_tup (a : List Int) : SeqAt.shaped (.tuple (a.map PyData.int)) = true := by
  unfold SeqAt.shaped
  rw [Bool.and_eq_true]
  have := depth_ints a
  refine ⟨?_, decide_eq_true ?_⟩
  · rw [PyData.canLay0]
    exact canLay_ints a
  · rw [PyData.depth]
    omega
theorem dpAll_ints {K : PySem.W.Frag} {H : Hp} : ∀ a : List Int, DpAll K H (a.map V.int) (a.map PyData.int)
  | [] => .nil
  | x :: xs => .cons (.int x) (dpAll_ints xs)
theorem eqv_lists (a b : List Int) : PyData.eqv (.list (a.map PyData.int)) (.list (b.map PyData.int)) = decide (a = b) := by
  rw [PyData.eqv]
  exact eqvAll_ints a b
theorem eqv_tups (a b : List Int) : PyData.eqv (.tuple (a.map PyData.int)) (.tuple (b.map PyData.int)) = decide (a = b) := by
  rw [PyData.eqv]
  exact eqvAll_ints a b
section
variable {P : Program} {w : World} {K : PySem.W.Frag} {mg : Str → Option Value} {base : Heap}
/-! ### by_last, by_farthest -/
def spBy (T : Tbs) (K : PySem.W.Frag) (stay : Int → Int → Bool) : Sp := fun vs H Q _ => ∃ (n : Int) (a : Addr) (ws : List Int), vs = [.int n, .ref a] ∧ 2 ≤ n ∧ n ≤ 9 ∧ SqT K H a (ws.map V.int) ∧ (ws.length : Int) ≤ n ∧ WsOk n ws ∧ Tb T H ∧
  ∀ H' p, Ex T H H' → H p = none → H' p = some (.tup ((res stay n ws).map V.int)) → Q (.ref p) H'
theorem sc_bylast : FnScope ["size", "wishes"] ["size", "wishes"] (defScope sByLast) := ⟨rfl, rfl, rfl, by decide +kernel, rfl, by decide +kernel, by decide +kernel⟩
theorem sc_byfar : FnScope ["size", "wishes"] ["size", "wishes"] (defScope sByFar) := ⟨rfl, rfl, rfl, by decide +kernel, rfl, by decide +kernel, by decide +kernel⟩
theorem ok_bylast {T : Tbs} {f c fN fS : Addr} {fd fdN fdS : FuncData} (D : DeC K mg "by_last" sByLast ["size", "wishes"] f fd c) (a : T.Apart) (TB : LamX.TabB base mg c T.pl) (X : Tx mg) (DN : De K mg "need_wishes" sNeedWishes ["size", "wishes"] fN fdN) (DS : De K mg "settled" sSettled ["size", "wishes", "stays"] fS fdS)
    (GN : FnOk P w K mg base CX0 3 fN fdN ["size", "wishes"] (spNeedWishes T K)) (GS : FnOk P w K mg base CX0 1 fS fdS ["size", "wishes", "stays"] (spSettled P w K)) : FnOk P w K mg base CX0 4 f fd ["size", "wishes"] (spBy T K lastS) := by
  refine D.ok sc_bylast (fun vs H Q E h => ?_) (fun A outer s H vs Q E hr h => ?_)
  · obtain ⟨n, a, ws, rfl, _⟩ := h
    rfl
  · obtain ⟨n, av, ws, rfl, h1, h2, hS, hl, hw, tb, q⟩ := h
    refine ⟨_, pss_cons (ps_expr (pe_call GN hr (by rfl) DN.g DN.F.kp DN.b .nil pass0 (pa_cons (pv 0) (pa_cons (pv 1) pa_nil))))
      (pss_one (ps_ret (pe_callTy call_tuple_of (by rfl) X.tuple (by decide +kernel) (pa_cons (pe_call GS (hr.mono (by decide)) (by rfl) DS.g DS.F.kp DS.b .nil pass0 (pa_cons (pv 0) (pa_cons (pv 1)
        (pa_cons (pe_lam2 (stay := lastS) (P := T.pl) (c := c) TB rfl (lamSem_last (fun cl pm cv ctv v u => rfl) rfl rfl rfl (by decide +kernel) (by decide +kernel) (by decide +kernel)) (fun y hy e => absurd e ((show ∀ z ∈ ([(Str.ofString "old", NameKind.local), (Str.ofString "new", NameKind.local)] : List (Str × NameKind)), z.2 ≠ NameKind.free by decide +kernel) y hy))) pa_nil)))) pa_nil)))), ?_⟩
    refine ⟨.int n, rfl, .ref av, rfl, n, av, ws, rfl, h1, h2, hS, hl, hw, tb, fun H1 e1 => ?_⟩
    have tb1 := e1.tb
    refine ⟨.int n, rfl, .ref av, rfl, tb1.pl, fun H2 lf c' kp ts nf hc => ?_⟩
    have e2 : Ex T H1 H2 := .lam tb1 a (.inl ⟨rfl, rfl⟩) kp ts
    have e12 := e1.trans e2
    have e3 : Ex T H (upd H2 lf (LamO P w lastS qLast c' lf)) := e12.up (same_upd nf)
    refine ⟨n, av, lf, ws, lastS, qLast, c', rfl, by omega, h2, e3.sqT tb hS, hl, hw, upd_same, ?_, fun H3 p sm np hp => ?_⟩
    · rw [upd_ne (ne_of_none hc nf)]
      exact hc
    · have e4 : Ex T H H3 := e3.up sm
      refine ⟨p, _, rfl, .inl ⟨SqL.of hp, fun l nl => ?_⟩⟩
      exact q _ l (e4.up (same_upd nl)) (e4.free nl) upd_same
theorem ok_byfar {T : Tbs} {f c fN fS : Addr} {fd fdN fdS : FuncData} (D : DeC K mg "by_farthest" sByFar ["size", "wishes"] f fd c) (a : T.Apart) (TB : LamX.TabB base mg c T.pf) (X : Tx mg) (DN : De K mg "need_wishes" sNeedWishes ["size", "wishes"] fN fdN) (DS : De K mg "settled" sSettled ["size", "wishes", "stays"] fS fdS)
    (GN : FnOk P w K mg base CX0 3 fN fdN ["size", "wishes"] (spNeedWishes T K)) (GS : FnOk P w K mg base CX0 1 fS fdS ["size", "wishes", "stays"] (spSettled P w K)) : FnOk P w K mg base CX0 4 f fd ["size", "wishes"] (spBy T K farS) := by
  refine D.ok sc_byfar (fun vs H Q E h => ?_) (fun A outer s H vs Q E hr h => ?_)
  · obtain ⟨n, a, ws, rfl, _⟩ := h
    rfl
  · obtain ⟨n, av, ws, rfl, h1, h2, hS, hl, hw, tb, q⟩ := h
    refine ⟨_, pss_cons (ps_expr (pe_call GN hr (by rfl) DN.g DN.F.kp DN.b .nil pass0 (pa_cons (pv 0) (pa_cons (pv 1) pa_nil))))
      (pss_one (ps_ret (pe_callTy call_tuple_of (by rfl) X.tuple (by decide +kernel) (pa_cons (pe_call GS (hr.mono (by decide)) (by rfl) DS.g DS.F.kp DS.b .nil pass0 (pa_cons (pv 0) (pa_cons (pv 1)
        (pa_cons (pe_lam2 (stay := farS) (P := T.pf) (c := c) TB rfl (lamSem_far (fun cl pm cv ctv v u => rfl) rfl rfl rfl (by decide +kernel) (by decide +kernel) (by decide +kernel)) (fun y hy e => absurd e ((show ∀ z ∈ ([(Str.ofString "old", NameKind.local), (Str.ofString "new", NameKind.local)] : List (Str × NameKind)), z.2 ≠ NameKind.free by decide +kernel) y hy))) pa_nil)))) pa_nil)))), ?_⟩
    refine ⟨.int n, rfl, .ref av, rfl, n, av, ws, rfl, h1, h2, hS, hl, hw, tb, fun H1 e1 => ?_⟩
    have tb1 := e1.tb
    refine ⟨.int n, rfl, .ref av, rfl, tb1.pf, fun H2 lf c' kp ts nf hc => ?_⟩
    have e2 : Ex T H1 H2 := .lam tb1 a (.inr (.inl ⟨rfl, rfl⟩)) kp ts
    have e12 := e1.trans e2
    have e3 : Ex T H (upd H2 lf (LamO P w farS qFar c' lf)) := e12.up (same_upd nf)
    refine ⟨n, av, lf, ws, farS, qFar, c', rfl, by omega, h2, e3.sqT tb hS, hl, hw, upd_same, ?_, fun H3 p sm np hp => ?_⟩
    · rw [upd_ne (ne_of_none hc nf)]
      exact hc
    · have e4 : Ex T H H3 := e3.up sm
      refine ⟨p, _, rfl, .inl ⟨SqL.of hp, fun l nl => ?_⟩⟩
      exact q _ l (e4.up (same_upd nl)) (e4.free nl) upd_same
/-! ### walks_in -/
def spWalksIn (K : PySem.W.Frag) : Sp := fun vs H Q _ => ∃ (n : Int) (a b : Addr) (k : Bool) (ws st : List Int), vs = [.int n, .ref a, .ref b] ∧ 0 < n ∧ SqT K H a (ws.map V.int) ∧ SqB k K H b (st.map V.int) ∧ st.length = ws.length ∧ ws.length ≤ 9 ∧
  ∀ H' p, Same H H' → H p = none → H' p = some (.lst ((wk n st ws).map V.int)) → Q (.ref p) H'
theorem wk_len {n : Int} {st ws : List Int} (h : st.length = ws.length) : (wk n st ws).length = ws.length := by
  unfold wk
  rw [List.length_zipWith]
  omega
theorem wk_get {n : Int} {st ws : List Int} {i : Nat} (h1 : i < st.length) (h2 : i < ws.length) : (wk n st ws)[i]? = some ((at0 st i - at0 ws i) % n) := by
  unfold wk
  rw [List.getElem?_zipWith, at0_get h1, at0_get h2]
theorem sc_walksin : FnScope ["size", "wishes", "stand", "place", "wish"] ["size", "wishes", "stand"] (defScope sWalksIn) := ⟨rfl, rfl, rfl, by decide +kernel, rfl, by decide +kernel, by decide +kernel⟩
theorem ok_walksin {f : Addr} {fd : FuncData} (D : De K mg "walks_in" sWalksIn ["size", "wishes", "stand"] f fd) (X : Tx mg) : FnOk P w K mg base CX0 1 f fd ["size", "wishes", "stand"] (spWalksIn K) := by
  refine D.F.ok sc_walksin (fun vs H Q E h => ?_) (fun cdv A outer s H vs Q E hr h => ?_)
  · obtain ⟨n, a, b, k, ws, st, rfl, _⟩ := h
    rfl
  · obtain ⟨n, a, b, k, ws, st, rfl, hn, hW, hB, hl, h9, q⟩ := h
    refine ⟨_, pss_one (ps_ret (pe_lc (own := [("place", 3), ("wish", 4)]) (g := gTup K 2 (gCons (gName 3) (gCons (gName 4) gNil))) (tt := tYes) rfl sc_walksin.nd (pi_zipB k false (by rfl) X.zip (pa_cons (pv 2) (pa_cons (pv 1) pa_nil))) (blkOk_by (N := ["size", "wishes", "stand", "place", "wish"]) (sc := defScope sWalksIn) (by decide +kernel))
          (fun _ _ _ _ _ => pg_tup rfl (pgs_cons (pg_name (i := 3) sc_walksin.nd rfl (.inl rfl)) (pgs_cons (pg_name (i := 4) sc_walksin.nd rfl (.inl rfl)) pgs_nil))) (fun _ _ _ _ _ => pts_nil) (fun _ _ _ _ _ => pe_op op_mod (pe_op op_sub (pv 3) (pv 4)) (pv 0)))), ?_⟩
    have hlen : (st.map V.int).length = (ws.map V.int).length := by rw [List.length_map, List.length_map, hl]
    refine ⟨.ref b, rfl, .ref a, rfl, b, a, st.map V.int, ws.map V.int, rfl, hB, hW, fun D nD => lc_it (walk_zipB hlen) (fun i H3 => Same H H3 ∧ H3 D = some (.lst (((wk n st ws).take i).map V.int))) ?_ ?_ ?_ ?_⟩
    · exact ⟨same_upd nD, upd_same⟩
    · rintro i H3 _ ⟨sm3, _⟩
      exact ⟨sameB sm3 hB, sameT sm3 hW⟩
    · rintro i x H3 H4 hi ⟨sm3, hD⟩ ⟨T, x1, x2, rfl, nT, rfl, f1, f2⟩
      rw [List.length_map] at hi
      obtain ⟨_, rfl⟩ := get_ws f1
      obtain ⟨hi2, rfl⟩ := get_ws f2
      refine ⟨T, _, rfl, .inl (.inl upd_same), rfl, _, _, rfl, _, _, rfl, rfl, rfl, ?_⟩
      refine ⟨_, rfl, _, rfl, _, _, rfl, rfl, .int n, rfl, _, _, rfl, rfl, hn, ((wk n st ws).take i).map V.int, ?_, ?_, fun b o e => ?_, ?_⟩
      · rw [upd_ne (ne_of_none hD nT)]
        exact hD
      · rw [List.length_map, List.length_take, wk_len hl, sizeLine_eq]
        omega
      · rw [upd_ne (ne_of_none e nD), upd_ne (ne_of_none (sm3 b o e) nT)]
        exact sm3 b o e
      · rw [upd_same, List.take_add_one, wk_get hi hi2, List.map_append]
        rfl
    · rintro H3 ⟨sm3, hD⟩
      rw [List.length_map, List.take_of_length_le (by rw [wk_len hl, hl]; exact Nat.le_refl _)] at hD
      exact q H3 D sm3 nD hD
end
end K13
namespace K13
open PySem PySem.Spec PyProof.Rows L2
section
variable {P : Program} {w : World} {K : PySem.W.Frag} {mg : Str → Option Value} {base : Heap}
/-! ### is_stand -/
/-- no tuple -/
def NoT (K : PySem.W.Frag) (H : Hp) (v : V) : Prop := ∃ t, TyX K H v t ∧ PySem.W.kitOne K t (.type "tuple") = some false
/-- what a question about a value answers: False of what is no tuple, ans of a tuple of ints -/
def AskV (K : PySem.W.Frag) (H : Hp) (v : V) (ans : List Int → Bool) (R : Bool → Prop) : Prop := (NoT K H v ∧ R false) ∨ ∃ (b : Addr) (xs : List Int), v = .ref b ∧ SqT K H b (xs.map V.int) ∧ xs.length ≤ 1000 ∧ R (ans xs)
def spIsStand (T : Tbs) (K : PySem.W.Frag) : Sp := fun vs H Q _ => ∃ (n : Int) (a : Addr) (ws : List Int) (v : V), vs = [.int n, .ref a, v] ∧ 0 < n ∧ n ≤ 9 ∧ SqT K H a (ws.map V.int) ∧ (ws.length : Int) ≤ n ∧ WsOk n ws ∧ Tb T H ∧
  AskV K H v (isSt n ws) fun b => ∀ H', Ex T H H' → Q (.bl b) H'
theorem sc_isstand : FnScope ["size", "wishes", "value"] ["size", "wishes", "value"] (defScope sIsStand) := ⟨rfl, rfl, rfl, by decide +kernel, rfl, by decide +kernel, by decide +kernel⟩
theorem ok_isstand {T : Tbs} {f c fI fP : Addr} {fd fdI fdP : FuncData} (D : DeC K mg "is_stand" sIsStand ["size", "wishes", "value"] f fd c) (a : T.Apart) (TB : LamX.TabB base mg c T.st) (X : Tx mg) (DI : De K mg "is_in" sIsIn ["value", "least", "most"] fI fdI) (DP : De K mg "spots_of" sSpotsOf ["size", "wishes"] fP fdP)
    (GP : FnOk P w K mg base CX0 1 fP fdP ["size", "wishes"] (spSpots K)) : FnOk P w K mg base CX0 2 f fd ["size", "wishes", "value"] (spIsStand T K) := by
  refine D.ok sc_isstand (fun vs H Q E h => ?_) (fun A outer s H vs Q E hr h => ?_)
  · obtain ⟨n, a, ws, v, rfl, _⟩ := h
    rfl
  · obtain ⟨n, av, ws, v, rfl, hn, hn9, hS, hl, hw, tb, q⟩ := h
    refine ⟨_, pss_cons (ps_if (PW.pt (pw_or (pt_not (pt_val (pe_callB call_isi (by rfl) X.isi (by decide +kernel) (pa_cons (pv 2) (pa_cons (pe_bltn (v := .ty "tuple") (by rfl) X.tuple (by decide +kernel) rfl) pa_nil)))))
        (pw_or1 (pt_not (pt_val (pe_allT (kz := 0) (P := T.st) (c := c) hr (by rfl) X.all ⟨TB.code, TB.bm, TB.gP⟩ rfl ⟨rfl, rfl, by decide +kernel, by decide +kernel, by decide +kernel, fun y hy e => ?_⟩ (pv 2) rfl (show (defScope sIsStand).names.lookup ("size" : Str) = some .cell by decide +kernel) (fun m => elt_isin (isinDef DI) DI.g DI.F.kp rfl X.isi X.int X.bool rfl (by decide +kernel) (by decide +kernel) (by decide +kernel) (by decide)) (fun v => rfl)))))))
        (pss_one (ps_ret pe_bl)) pss_nil)
      (pss_one (ps_ret (pe_cmpR (op_eqD hr.units) (pe_callB (cr_sortedB false) (by rfl) X.sorted (by decide +kernel) (pa_cons (pv 2) pa_nil)) (pe_callB (cr_sortedB true) (by rfl) X.sorted (by decide +kernel) (pa_cons (pe_call GP hr (by rfl) DP.g DP.F.kp DP.b .nil pass0 (pa_cons (pv 0) (pa_cons (pv 1) pa_nil))) pa_nil)) (nomark _)))), ?_⟩
    · have : y.1 = ("size" : Str) := by
        have h1 : ∀ z ∈ ([(Str.ofString ".0", NameKind.local), (Str.ofString "place", NameKind.local), (Str.ofString "size", NameKind.free), (Str.ofString "is_in", NameKind.globalImplicit)] : List (Str × NameKind)), z.2 = .free → z.1 = ("size" : Str) := by decide +kernel
        exact h1 y hy e
      rw [this]
      exact cell_has (by decide +kernel)
    rcases q with ⟨⟨t, ty, hk⟩, q⟩ | ⟨b, xs, rfl, hB, hz, q⟩
    · exact ⟨v, rfl, v, .ty "tuple", t, .type "tuple", false, rfl, .ty _, ty, hk, false, rfl, iteT (iteT (q H (.refl tb)))⟩
    · refine ⟨.ref b, rfl, .ref b, .ty "tuple", .type "tuple", .type "tuple", true, rfl, .ty _, tyT hB, kit_ty (by decide +kernel), true, rfl, iteF ?_⟩
      refine ⟨.ref b, rfl, b, xs, n, rfl, hB, rfl, tb.st, fun H2 ht => ⟨_, rfl, ?_⟩⟩
      have e2 : Ex T H H2 := .tabbed tb a (.inr rfl) ht
      cases hall : (xs.all fun i => decide (0 ≤ i) && decide (i ≤ n - 1)) with
      | false =>
        refine iteT ?_
        have : isSt n ws xs = false := by
          cases hb : isSt n ws xs with
          | false => rfl
          | true => rw [isSt_range hn hw hl hb] at hall; cases hall
        rw [this] at q
        exact q H2 e2
      | true =>
        refine iteF ?_
        refine ⟨.ref b, rfl, b, xs, rfl, e2.sqT tb hB, fun xs' p1 hp1 hs1 np1 => ?_⟩
        have e3 := e2.up (same_upd (o := .lst (xs'.map V.int)) np1)
        refine ⟨.int n, rfl, .ref av, rfl, n, av, ws, rfl, hn, e3.sqT tb hS, hl, hn9, hw, fun H3 p2 sm np2 hp2 => ?_⟩
        refine ⟨p2, sp n ws, rfl, SqL.of hp2, fun ss p3 hp3 hs3 np3 => ?_⟩
        have h1 : (upd H3 p3 (.lst (ss.map V.int))) p1 = some (.lst (xs'.map V.int)) := by
          have z : H3 p1 = some (.lst (xs'.map V.int)) := sm _ _ upd_same
          rw [upd_ne (ne_of_none z np3)]
          exact z
        refine ⟨.list (xs'.map PyData.int), .list (ss.map PyData.int), .lst (SqL.of h1) (dpAll_ints xs'), .lst (SqL.of upd_same) (dpAll_ints ss), shaped_list _, shaped_list _, ?_⟩
        have ee : PyData.eqv (.list (xs'.map PyData.int)) (.list (ss.map PyData.int)) = isSt n ws xs := by
          rw [eqv_lists]
          by_cases hp : xs.Perm (sp n ws)
          · rw [isSt_iff.mpr hp]
            exact decide_eq_true (sorted_uniq ((hp1.trans hp).trans hp3.symm) hs1 hs3)
          · have : isSt n ws xs = false := by
              cases hb : isSt n ws xs with
              | false => rfl
              | true => exact absurd (isSt_iff.mp hb) hp
            rw [this]
            refine decide_eq_false fun z => hp ?_
            rw [z] at hp1
            exact hp1.symm.trans hp3
        rw [ee]
        exact q _ ((e3.up sm).up (same_upd np3))
/-! ### need_stand, stand_walks -/
def spNeedStand (T : Tbs) (K : PySem.W.Frag) : Sp := fun vs H Q _ => ∃ (n : Int) (a b : Addr) (ws xs : List Int), vs = [.int n, .ref a, .ref b] ∧ 2 ≤ n ∧ n ≤ 9 ∧ SqT K H a (ws.map V.int) ∧ (ws.length : Int) ≤ n ∧ WsOk n ws ∧ Tb T H ∧ SqT K H b (xs.map V.int) ∧ isSt n ws xs = true ∧
  ∀ H', Ex T H H' → Q .non H'
theorem isSt_len {n : Int} {ws xs : List Int} (h : isSt n ws xs = true) : xs.length = ws.length := (isSt_iff.mp h).length_eq.trans (sp_len n ws)
theorem sc_needstand : FnScope ["size", "wishes", "stand"] ["size", "wishes", "stand"] (defScope sNeedStand) := ⟨rfl, rfl, rfl, by decide +kernel, rfl, by decide +kernel, by decide +kernel⟩
theorem ok_needstand {T : Tbs} {f fN fI : Addr} {fd fdN fdI : FuncData} (D : De K mg "need_stand" sNeedStand ["size", "wishes", "stand"] f fd) (DN : De K mg "need_wishes" sNeedWishes ["size", "wishes"] fN fdN) (gI : mg "is_stand" = some (.ref fI)) (kI : PySem.W.keepIn K (.ref fI) = true) (bI : Binds K fdI ["size", "wishes", "value"] [])
    (GN : FnOk P w K mg base CX0 3 fN fdN ["size", "wishes"] (spNeedWishes T K)) (GI : FnOk P w K mg base CX0 2 fI fdI ["size", "wishes", "value"] (spIsStand T K)) : FnOk P w K mg base CX0 4 f fd ["size", "wishes", "stand"] (spNeedStand T K) := by
  refine D.F.ok sc_needstand (fun vs H Q E h => ?_) (fun cdv A outer s H vs Q E hr h => ?_)
  · obtain ⟨n, a, b, ws, xs, rfl, _⟩ := h
    rfl
  · obtain ⟨n, av, b, ws, xs, rfl, h1, h2, hS, hl, hw, tb, hB, hst, q⟩ := h
    refine ⟨_, pss_cons (ps_expr (pe_call GN hr (by rfl) DN.g DN.F.kp DN.b .nil pass0 (pa_cons (pv 0) (pa_cons (pv 1) pa_nil))))
      (pss_one (ps_if (pt_not (pt_val (pe_call GI (hr.mono (by decide)) (by rfl) gI kI bI .nil pass0 (pa_cons (pv 0) (pa_cons (pv 1) (pa_cons (pv 2) pa_nil)))))) (pss_one ps_never) pss_nil)), ?_⟩
    refine ⟨.int n, rfl, .ref av, rfl, n, av, ws, rfl, h1, h2, hS, hl, hw, tb, fun H1 e1 => ?_⟩
    have hlen := isSt_len hst
    refine ⟨.int n, rfl, .ref av, rfl, .ref b, rfl, n, av, ws, .ref b, rfl, by omega, h2, e1.sqT tb hS, hl, hw, e1.tb, .inr ⟨b, xs, rfl, e1.sqT tb hB, by omega, fun H2 e2 => ?_⟩⟩
    rw [hst]
    exact ⟨true, rfl, iteF (q H2 (e1.trans e2))⟩
def spStandWalks (T : Tbs) (K : PySem.W.Frag) : Sp := fun vs H Q _ => ∃ (n : Int) (a b : Addr) (ws xs : List Int), vs = [.int n, .ref a, .ref b] ∧ 2 ≤ n ∧ n ≤ 9 ∧ SqT K H a (ws.map V.int) ∧ (ws.length : Int) ≤ n ∧ WsOk n ws ∧ Tb T H ∧ SqT K H b (xs.map V.int) ∧ isSt n ws xs = true ∧
  ∀ H' p, Ex T H H' → H p = none → H' p = some (.tup ((wk n xs ws).map V.int)) → Q (.ref p) H'
theorem sc_standwalks : FnScope ["size", "wishes", "stand"] ["size", "wishes", "stand"] (defScope sStandWalks) := ⟨rfl, rfl, rfl, by decide +kernel, rfl, by decide +kernel, by decide +kernel⟩
theorem ok_standwalks {T : Tbs} {f fN fI : Addr} {fd fdN fdI : FuncData} (D : De K mg "stand_walks" sStandWalks ["size", "wishes", "stand"] f fd) (X : Tx mg) (DN : De K mg "need_stand" sNeedStand ["size", "wishes", "stand"] fN fdN) (DI : De K mg "walks_in" sWalksIn ["size", "wishes", "stand"] fI fdI)
    (GN : FnOk P w K mg base CX0 4 fN fdN ["size", "wishes", "stand"] (spNeedStand T K)) (GI : FnOk P w K mg base CX0 1 fI fdI ["size", "wishes", "stand"] (spWalksIn K)) : FnOk P w K mg base CX0 5 f fd ["size", "wishes", "stand"] (spStandWalks T K) := by
  refine D.F.ok sc_standwalks (fun vs H Q E h => ?_) (fun cdv A outer s H vs Q E hr h => ?_)
  · obtain ⟨n, a, b, ws, xs, rfl, _⟩ := h
    rfl
  · obtain ⟨n, av, b, ws, xs, rfl, h1, h2, hS, hl, hw, tb, hB, hst, q⟩ := h
    refine ⟨_, pss_cons (ps_expr (pe_call GN hr (by rfl) DN.g DN.F.kp DN.b .nil pass0 (pa_cons (pv 0) (pa_cons (pv 1) (pa_cons (pv 2) pa_nil)))))
      (pss_one (ps_ret (pe_callTy call_tuple_of (by rfl) X.tuple (by decide +kernel) (pa_cons (pe_call GI (hr.mono (by decide)) (by rfl) DI.g DI.F.kp DI.b .nil pass0 (pa_cons (pv 0) (pa_cons (pv 1) (pa_cons (pv 2) pa_nil)))) pa_nil)))), ?_⟩
    refine ⟨.int n, rfl, .ref av, rfl, .ref b, rfl, n, av, b, ws, xs, rfl, h1, h2, hS, hl, hw, tb, hB, hst, fun H1 e1 => ?_⟩
    have hlen := isSt_len hst
    refine ⟨.int n, rfl, .ref av, rfl, .ref b, rfl, n, av, b, false, ws, xs, rfl, by omega, e1.sqT tb hS, e1.sqT tb hB, hlen, by omega, fun H2 p sm np hp => ?_⟩
    have e2 := e1.up sm
    exact ⟨p, _, rfl, .inl ⟨SqL.of hp, fun l nl => q _ l (e2.up (same_upd nl)) (e2.free nl) upd_same⟩⟩
/-! ### worst_of, least_worst -/
def spWorst (T : Tbs) (K : PySem.W.Frag) : Sp := fun vs H Q _ => ∃ (n : Int) (a : Addr) (ws : List Int), vs = [.int n, .ref a] ∧ 2 ≤ n ∧ n ≤ 9 ∧ SqT K H a (ws.map V.int) ∧ (ws.length : Int) ≤ n ∧ WsOk n ws ∧ Tb T H ∧
  ∀ H', Ex T H H' → Q (.int (mxl (wk n (res farS n ws) ws))) H'
theorem sc_worst : FnScope ["size", "wishes"] ["size", "wishes"] (defScope sWorstOf) := ⟨rfl, rfl, rfl, by decide +kernel, rfl, by decide +kernel, by decide +kernel⟩
theorem ok_worst {T : Tbs} {f c fI fS : Addr} {fd fdI fdS : FuncData} (D : DeC K mg "worst_of" sWorstOf ["size", "wishes"] f fd c) (a : T.Apart) (TB : LamX.TabB base mg c T.pw) (X : Tx mg) (DI : De K mg "walks_in" sWalksIn ["size", "wishes", "stand"] fI fdI) (DS : De K mg "settled" sSettled ["size", "wishes", "stays"] fS fdS)
    (GI : FnOk P w K mg base CX0 1 fI fdI ["size", "wishes", "stand"] (spWalksIn K)) (GS : FnOk P w K mg base CX0 1 fS fdS ["size", "wishes", "stays"] (spSettled P w K)) : FnOk P w K mg base CX0 2 f fd ["size", "wishes"] (spWorst T K) := by
  refine D.ok sc_worst (fun vs H Q E h => ?_) (fun A outer s H vs Q E hr h => ?_)
  · obtain ⟨n, a, ws, rfl, _⟩ := h
    rfl
  · obtain ⟨n, av, ws, rfl, h1, h2, hS, hl, hw, tb, q⟩ := h
    refine ⟨_, pss_one (ps_ret (pe_callB (cr_max rfl) (by rfl) X.max (by decide +kernel) (pa_cons (pe_lst (StX.pa_star (pe_call GI hr (by rfl) DI.g DI.F.kp DI.b .nil pass0 (pa_cons (pv 0) (pa_cons (pv 1) (pa_cons (pe_call GS hr (by rfl) DS.g DS.F.kp DS.b .nil pass0 (pa_cons (pv 0) (pa_cons (pv 1)
        (pa_cons (pe_lam2 (stay := farS) (P := T.pw) (c := c) TB rfl (lamSem_far (fun cl pm cv ctv v u => rfl) rfl rfl rfl (by decide +kernel) (by decide +kernel) (by decide +kernel)) (fun y hy e => absurd e ((show ∀ z ∈ ([(Str.ofString "old", NameKind.local), (Str.ofString "new", NameKind.local)] : List (Str × NameKind)), z.2 ≠ NameKind.free by decide +kernel) y hy))) pa_nil)))) pa_nil)))) (pa_cons pe_int pa_nil))) pa_nil))), ?_⟩
    refine ⟨.int n, rfl, .ref av, rfl, .int n, rfl, .ref av, rfl, tb.pw, fun H2 lf c' kp ts nf hc => ?_⟩
    have e2 : Ex T H H2 := .lam tb a (.inr (.inr ⟨rfl, rfl⟩)) kp ts
    have e3 : Ex T H (upd H2 lf (LamO P w farS qWorst c' lf)) := e2.up (same_upd nf)
    refine ⟨n, av, lf, ws, farS, qWorst, c', rfl, by omega, h2, e3.sqT tb hS, hl, hw, upd_same, ?_, fun H3 p sm np hp => ?_⟩
    · rw [upd_ne (ne_of_none hc nf)]
      exact hc
    · have e4 : Ex T H H3 := e3.up sm
      have hlen := res_len (stay := farS) (show 0 < n by omega) hw hl
      refine ⟨n, av, p, true, ws, res farS n ws, rfl, by omega, e4.sqT tb hS, SqL.of hp, hlen, by omega, fun H4 p2 sm2 np2 hp2 => ?_⟩
      have hwl := wk_len (n := n) hlen
      refine ⟨p2, _, rfl, .inr (SqL.of hp2), ?_, fun p3 np3 => ?_⟩
      · show ((wk n (res farS n ws) ws).map V.int ++ [V.int 0]).length ≤ sizeLine
        rw [List.length_append, List.length_map, hwl, sizeLine_eq]
        show ws.length + 1 ≤ _
        omega
      · refine ⟨p3, wk n (res farS n ws) ws ++ [0], rfl, SqL.of (by rw [upd_same, List.map_append]; rfl), by rw [List.length_append]; exact Nat.succ_pos _, fun m hm hle => ?_⟩
        have em : m = mxl (wk n (res farS n ws) ws) := Mx.uniq ⟨hm, hle⟩ (mxl_mx _)
        rw [em]
        exact q _ ((e4.up sm2).up (same_upd np3))
theorem sc_least : FnScope ["size", "wishes"] ["size", "wishes"] (defScope sLeastWorst) := ⟨rfl, rfl, rfl, by decide +kernel, rfl, by decide +kernel, by decide +kernel⟩
theorem ok_leastworst {T : Tbs} {f fN fW : Addr} {fd fdN fdW : FuncData} (D : De K mg "least_worst" sLeastWorst ["size", "wishes"] f fd) (DN : De K mg "need_wishes" sNeedWishes ["size", "wishes"] fN fdN) (gW : mg "worst_of" = some (.ref fW)) (kW : PySem.W.keepIn K (.ref fW) = true) (bW : Binds K fdW ["size", "wishes"] [])
    (GN : FnOk P w K mg base CX0 3 fN fdN ["size", "wishes"] (spNeedWishes T K)) (GW : FnOk P w K mg base CX0 2 fW fdW ["size", "wishes"] (spWorst T K)) : FnOk P w K mg base CX0 4 f fd ["size", "wishes"] (spWorst T K) := by
  refine D.F.ok sc_least (fun vs H Q E h => ?_) (fun cdv A outer s H vs Q E hr h => ?_)
  · obtain ⟨n, a, ws, rfl, _⟩ := h
    rfl
  · obtain ⟨n, av, ws, rfl, h1, h2, hS, hl, hw, tb, q⟩ := h
    refine ⟨_, pss_cons (ps_expr (pe_call GN hr (by rfl) DN.g DN.F.kp DN.b .nil pass0 (pa_cons (pv 0) (pa_cons (pv 1) pa_nil))))
      (pss_one (ps_ret (pe_call GW (hr.mono (by decide)) (by rfl) gW kW bW .nil pass0 (pa_cons (pv 0) (pa_cons (pv 1) pa_nil))))), ?_⟩
    refine ⟨.int n, rfl, .ref av, rfl, n, av, ws, rfl, h1, h2, hS, hl, hw, tb, fun H1 e1 => ?_⟩
    exact ⟨.int n, rfl, .ref av, rfl, n, av, ws, rfl, h1, h2, e1.sqT tb hS, hl, hw, e1.tb, fun H2 e2 => q H2 (e1.trans e2)⟩
/-! ### shows_least_worst -/
def spShows (T : Tbs) (K : PySem.W.Frag) : Sp := fun vs H Q _ => ∃ (n : Int) (a : Addr) (ws : List Int) (v : V), vs = [.int n, .ref a, v] ∧ 2 ≤ n ∧ n ≤ 9 ∧ SqT K H a (ws.map V.int) ∧ (ws.length : Int) ≤ n ∧ WsOk n ws ∧ Tb T H ∧
  AskV K H v (shB n ws) fun b => ∀ H', Ex T H H' → Q (.bl b) H'
theorem Ex.noT {T : Tbs} {H H' : Hp} (e : Ex T H H') (t : Tb T H) {v : V} (h : NoT K H v) : NoT K H' v := by
  obtain ⟨ty, hx, hk⟩ := h
  refine ⟨ty, ?_, hk⟩
  cases hx with
  | base b =>
    cases b with
    | non => exact .base .non
    | bl x => exact .base (.bl x)
    | int i => exact .base (.int i)
    | str x => exact .base (.str x)
    | flt x => exact .base (.flt x)
    | lst e1 => exact .base (.lst (e.at_ t e1))
    | frz e1 => exact .base (.frz (e.at_ t e1))
    | tup e1 => exact .base (.tup (e.at_ t e1))
    | dK e1 => exact .base (.dK (e.at_ t e1))
    | dT e1 => exact .base (.dT (e.at_ t e1))
    | ins e1 cl ha hn htk hm => exact .base (.ins (e.at_ t e1) cl ha hn htk hm)
  | byt x => exact .byt x
  | set e1 => exact .set (e.at_ t e1)
  | kList e1 c => exact .kList e1 c
  | kTuple e1 c => exact .kTuple e1 c
  | kDict e1 c => exact .kDict e1 c
  | fTuple e1 => exact .fTuple (e.at_ t e1)
  | fDict e1 => exact .fDict (e.at_ t e1)
theorem sc_shows : FnScope ["size", "wishes", "value"] ["size", "wishes", "value"] (defScope sShows) := ⟨rfl, rfl, rfl, by decide +kernel, rfl, by decide +kernel, by decide +kernel⟩
theorem ok_shows {T : Tbs} {f fN fS fI fW : Addr} {fd fdN fdS fdI fdW : FuncData} (D : De K mg "shows_least_worst" sShows ["size", "wishes", "value"] f fd) (X : Tx mg) (DN : De K mg "need_wishes" sNeedWishes ["size", "wishes"] fN fdN)
    (gS : mg "is_stand" = some (.ref fS)) (kS : PySem.W.keepIn K (.ref fS) = true) (bS : Binds K fdS ["size", "wishes", "value"] []) (DI : De K mg "walks_in" sWalksIn ["size", "wishes", "stand"] fI fdI) (gW : mg "worst_of" = some (.ref fW)) (kW : PySem.W.keepIn K (.ref fW) = true) (bW : Binds K fdW ["size", "wishes"] [])
    (GN : FnOk P w K mg base CX0 3 fN fdN ["size", "wishes"] (spNeedWishes T K)) (GS : FnOk P w K mg base CX0 2 fS fdS ["size", "wishes", "value"] (spIsStand T K)) (GI : FnOk P w K mg base CX0 1 fI fdI ["size", "wishes", "stand"] (spWalksIn K)) (GW : FnOk P w K mg base CX0 2 fW fdW ["size", "wishes"] (spWorst T K)) :
    FnOk P w K mg base CX0 4 f fd ["size", "wishes", "value"] (spShows T K) := by
  refine D.F.ok sc_shows (fun vs H Q E h => ?_) (fun cdv A outer s H vs Q E hr h => ?_)
  · obtain ⟨n, a, ws, v, rfl, _⟩ := h
    rfl
  · obtain ⟨n, av, ws, v, rfl, h1, h2, hS, hl, hw, tb, q⟩ := h
    refine ⟨_, pss_cons (ps_expr (pe_call GN hr (by rfl) DN.g DN.F.kp DN.b .nil pass0 (pa_cons (pv 0) (pa_cons (pv 1) pa_nil))))
      (pss_cons (ps_if (pt_not (pt_val (pe_call GS (hr.mono (by decide)) (by rfl) gS kS bS .nil pass0 (pa_cons (pv 0) (pa_cons (pv 1) (pa_cons (pv 2) pa_nil)))))) (pss_one (ps_ret pe_bl)) pss_nil)
      (pss_one (ps_ret (pe_cmpR op_eq (pe_callB (cr_max rfl) (by rfl) X.max (by decide +kernel) (pa_cons (pe_lst (StX.pa_star (pe_call GI (hr.mono (by decide)) (by rfl) DI.g DI.F.kp DI.b .nil pass0 (pa_cons (pv 0) (pa_cons (pv 1) (pa_cons (pv 2) pa_nil)))) (pa_cons pe_int pa_nil))) pa_nil))
        (pe_call GW (hr.mono (by decide)) (by rfl) gW kW bW .nil pass0 (pa_cons (pv 0) (pa_cons (pv 1) pa_nil))) (nomark _))))), ?_⟩
    refine ⟨.int n, rfl, .ref av, rfl, n, av, ws, rfl, h1, h2, hS, hl, hw, tb, fun H1 e1 => ?_⟩
    have tb1 := e1.tb
    have hS1 := e1.sqT tb hS
    refine ⟨.int n, rfl, .ref av, rfl, v, rfl, n, av, ws, v, rfl, by omega, h2, hS1, hl, hw, tb1, ?_⟩
    rcases q with ⟨hno, q⟩ | ⟨b, xs, rfl, hB, hz, q⟩
    · exact .inl ⟨e1.noT tb hno, fun H2 e2 => ⟨false, rfl, iteT (q H2 (e1.trans e2))⟩⟩
    · refine .inr ⟨b, xs, rfl, e1.sqT tb hB, hz, fun H2 e2 => ⟨_, rfl, ?_⟩⟩
      have e12 := e1.trans e2
      cases hst : isSt n ws xs with
      | false =>
        refine iteT ?_
        have : shB n ws xs = false := by
          unfold shB
          rw [hst]
          rfl
        rw [this] at q
        exact q H2 e12
      | true =>
        refine iteF ?_
        have hlen := isSt_len hst
        refine ⟨.int n, rfl, .ref av, rfl, .ref b, rfl, n, av, b, false, ws, xs, rfl, by omega, e12.sqT tb hS, e12.sqT tb hB, hlen, by omega, fun H3 p2 sm2 np2 hp2 => ?_⟩
        have hwl := wk_len (n := n) hlen
        refine ⟨p2, _, rfl, .inr (SqL.of hp2), ?_, fun p3 np3 => ?_⟩
        · show ((wk n xs ws).map V.int ++ [V.int 0]).length ≤ sizeLine
          rw [List.length_append, List.length_map, hwl, sizeLine_eq]
          show ws.length + 1 ≤ _
          omega
        · refine ⟨p3, wk n xs ws ++ [0], rfl, SqL.of (by rw [upd_same, List.map_append]; rfl), by rw [List.length_append]; exact Nat.succ_pos _, fun m hm hle => ?_⟩
          have em : m = mxl (wk n xs ws) := Mx.uniq ⟨hm, hle⟩ (mxl_mx _)
          have e4 := (e12.up sm2).up (same_upd (o := .lst ((wk n xs ws).map V.int ++ [V.int 0])) np3)
          refine ⟨.int n, rfl, .ref av, rfl, n, av, ws, rfl, h1, h2, e4.sqT tb hS, hl, hw, e4.tb, fun H5 e5 => ⟨rfl, ?_⟩⟩
          have es : decide (V.int m = V.int (mxl (wk n (res farS n ws) ws))) = shB n ws xs := by
            unfold shB
            rw [hst, em, Bool.true_and]
            exact decide_eq_decide.mpr ⟨fun z => V.int.inj z, fun z => congrArg V.int z⟩
          rw [es]
          exact q H5 (e4.trans e5)
end
end K13
namespace K13
open PySem PySem.Spec PyProof.Rows L2
section
variable {P : Program} {w : World} {K : PySem.W.Frag} {mg : Str → Option Value} {base : Heap}
/-! ### _law_taken -/
/-- the row: the script, how many were read, the draw, the rest -/
def Rw (K : PySem.W.Frag) (H : Hp) (r : Addr) : Prop := ∃ (sc : Addr) (xs : List Int) (a b c : Int), H r = some (.lst [.ref sc, .int a, .int b, .int c]) ∧ SqL K H sc (xs.map V.int) ∧ 0 ≤ a ∧ 0 ≤ c
/-- all but one object are as they were -/
def Bt (r : Addr) (H H' : Hp) : Prop := ∀ b, b ≠ r → H' b = H b
theorem Bt.refl {r : Addr} (H : Hp) : Bt r H H := fun _ _ => rfl
theorem Bt.upd {r : Addr} {H H' : Hp} (h : Bt r H H') (o : HO) : Bt r H (L2.upd H' r o) := fun b hb => by
  rw [upd_ne hb]
  exact h b hb
theorem Bt.trans {r : Addr} {H H1 H2 : Hp} (h : Bt r H H1) (k : Bt r H1 H2) : Bt r H H2 := fun b hb => (k b hb).trans (h b hb)
/-- the script stands as it was -/
theorem sq_bt {H : Hp} {r sc : Addr} {xs : List Int} {y : Addr} {ys : List V} (h : H r = some (.lst (.ref y :: ys))) (hs : SqL K H sc (xs.map V.int)) (o : HO) : SqL K (upd H r o) sc (xs.map V.int) := by
  rcases hs with (e | ⟨ob, e⟩) | e
  · refine .inl (.inl ?_)
    rw [upd_ne (fun z => ?_)]
    · exact e
    · rw [z, h] at e
      have := HO.lst.inj (Option.some.inj e)
      cases xs with
      | nil => cases this
      | cons x xs => cases this
  · refine .inl (.inr ⟨ob, ?_⟩)
    rw [upd_ne (fun z => ?_)]
    · exact e
    · rw [z, h] at e
      cases e
  · exact .inr e
def spTaken (K : PySem.W.Frag) : Sp := fun vs H Q _ => ∃ (r : Addr) (m : Int), vs = [.ref r, .int m] ∧ 0 < m ∧ m < 1073741824 ∧ Rw K H r ∧ ∀ H' d, Bt r H H' → Rw K H' r → 0 ≤ d → d < m → Q (.int d) H'
theorem sc_taken : FnScope ["_law_row", "_law_many", "_law_found", "_law_cell"] ["_law_row", "_law_many"] (defScope sTaken) := ⟨rfl, rfl, rfl, by decide +kernel, rfl, by decide +kernel, by decide +kernel⟩
theorem ok_taken {f : Addr} {fd : FuncData} (D : De K mg "_law_taken" sTaken ["_law_row", "_law_many"] f fd) (X : Tx mg) : FnOk P w K mg base CX0 1 f fd ["_law_row", "_law_many"] (spTaken K) := by
  refine D.F.ok sc_taken (fun vs H Q E h => ?_) (fun cdv A outer s H vs Q E hr h => ?_)
  · obtain ⟨r, m, rfl, _⟩ := h
    rfl
  · obtain ⟨r, m, rfl, hm, hm2, ⟨sc, xs, a, b, c, hR, hS, ha, hc⟩, q⟩ := h
    have hm0 : ∀ i : Int, 0 ≤ i % m ∧ i % m < m := fun i => ⟨Int.emod_nonneg _ (by omega), Int.emod_lt_of_pos _ hm⟩
    refine ⟨_, pss_cons (ps_if (pt_cmp (pc_gt (pe_ix ix_list (pv 0) pe_int (fun _ _ => rfl)) pe_int))
        (pss_cons (ps_set (i := 2) sc_taken.nd rfl (.inl rfl) (pe_op op_mod (pe_callTy call_int1 (by rfl) X.int (by decide +kernel) (pa_cons (pe_ix ix_list (pv 0) pe_int (fun _ _ => rfl)) pa_nil)) (pv 1)))
        (pss_cons (ps_asg (pe_op op_fdiv (pe_ix ix_list (pv 0) pe_int (fun _ _ => rfl)) (pv 1)) (pg_sub (pv 0) pe_int set_list))
        (pss_one (ps_ret (pv 2))))) pss_nil)
      (pss_cons (ps_asg (pe_op op_add (pe_ix ix_list (pv 0) pe_int (fun _ _ => rfl)) pe_int) (pg_sub (pv 0) pe_int set_list))
      (pss_cons (ps_if (pt_cmp (pc_gt (pe_ix ix_list (pv 0) pe_int (fun _ _ => rfl)) (pe_callB call_len (by rfl) X.len (by decide +kernel) (pa_cons (pe_ix ix_list (pv 0) pe_int (fun _ _ => rfl)) pa_nil))))
        (pss_cons (ps_asg (pe_op op_mod (pe_callTy call_int1 (by rfl) X.int (by decide +kernel) (pa_cons (pe_op op_add (pe_op op_mul (pe_ix ix_list (pv 0) pe_int (fun _ _ => rfl)) pe_int) pe_int) pa_nil)) pe_int) (pg_sub (pv 0) pe_int set_list))
        (pss_one (ps_ret (pe_op op_mod (pe_callTy call_int1 (by rfl) X.int (by decide +kernel) (pa_cons (pe_op op_fdiv (pe_ix ix_list (pv 0) pe_int (fun _ _ => rfl)) pe_int) pa_nil)) (pv 1))))) pss_nil)
      (pss_cons (ps_set (i := 3) sc_taken.nd rfl (.inl rfl) (pe_ix ix_list (pe_ix ix_list (pv 0) pe_int (fun _ _ => rfl)) (pe_op op_sub (pe_ix ix_list (pv 0) pe_int (fun _ _ => rfl)) pe_int) (fun _ _ => rfl)))
      (pss_cons (ps_asg (pe_op op_mod (pe_callTy call_int1 (by rfl) X.int (by decide +kernel) (pa_cons (pe_op op_add (pe_op op_add (pe_op op_mul (pe_ix ix_list (pv 0) pe_int (fun _ _ => rfl)) pe_int) (pv 3)) pe_int) pa_nil)) pe_int) (pg_sub (pv 0) pe_int set_list))
      (pss_cons (ps_if (pt_cmp (pc_ge (pv 3) (pe_op op_pow pe_int pe_int))) (pss_one (ps_asg (pe_op op_fdiv (pv 3) (pv 1)) (pg_sub (pv 0) pe_int set_list))) pss_nil)
      (pss_one (ps_ret (pe_op op_mod (pe_callTy call_int1 (by rfl) X.int (by decide +kernel) (pa_cons (pv 3) pa_nil)) (pv 1))))))))), ?_⟩
    refine ⟨.ref r, rfl, r, _, 3, .int c, rfl, rfl, SqL.of hR, rfl, c, 0, rfl, rfl, decide (0 < c), rfl, ?_⟩
    generalize hb : decide (0 < c) = bb
    cases bb with
    | true =>
      refine iteT ?_
      have h0 : 0 < c := of_decide_eq_true hb
      -- found = int(row[3]) % many
      refine ⟨.ref r, rfl, r, _, 3, .int c, rfl, rfl, SqL.of hR, rfl, .inl ⟨c, rfl, .int m, rfl, c, m, rfl, rfl, hm, ?_⟩⟩
      -- row[3] = row[3] // many
      refine ⟨.ref r, rfl, r, _, 3, .int c, rfl, rfl, SqL.of hR, rfl, .int m, rfl, c, m, rfl, rfl, ⟨hm, hm2⟩, .ref r, rfl, r, _, 3, 3, rfl, rfl, hR, rfl, ?_⟩
      exact ⟨.int (c % m), rfl, q _ _ ((Bt.refl H).upd _) ⟨sc, xs, a, b, c / m, upd_same, sq_bt hR hS _, ha, Int.ediv_nonneg hc (by omega)⟩ (hm0 c).1 (hm0 c).2⟩
    | false =>
      refine iteF ?_
      -- row[1] = row[1] + 1
      refine ⟨.ref r, rfl, r, _, 1, .int a, rfl, rfl, SqL.of hR, rfl, a, 1, rfl, rfl, .ref r, rfl, r, _, 1, 1, rfl, rfl, hR, rfl, ?_⟩
      have hR1 : (upd H r (.lst [.ref sc, .int (a + 1), .int b, .int c])) r = some (.lst [.ref sc, .int (a + 1), .int b, .int c]) := upd_same
      have hS1 : SqL K (upd H r (.lst [.ref sc, .int (a + 1), .int b, .int c])) sc (xs.map V.int) := sq_bt hR hS _
      have B1 : Bt r H (upd H r (.lst [.ref sc, .int (a + 1), .int b, .int c])) := (Bt.refl H).upd _
      show tSeq _ _ _ _ (upd H r (.lst [.ref sc, .int (a + 1), .int b, .int c]))
      generalize upd H r (.lst [.ref sc, .int (a + 1), .int b, .int c]) = H1 at hR1 hS1 B1
      refine ⟨.ref r, rfl, r, _, 1, .int (a + 1), rfl, rfl, SqL.of hR1, rfl, .ref r, rfl, r, _, 0, .ref sc, rfl, rfl, SqL.of hR1, rfl, .ref sc, _, rfl, .inl ⟨_, hS1, rfl⟩, a + 1, ((xs.length : Nat) : Int), rfl, by rw [List.length_map], decide (((xs.length : Nat) : Int) < a + 1), rfl, ?_⟩
      generalize hb2 : decide (((xs.length : Nat) : Int) < a + 1) = bb
      cases bb with
      | true =>
        refine iteT ?_
        refine ⟨.ref r, rfl, r, _, 2, .int b, rfl, rfl, SqL.of hR1, rfl, b, 48271, rfl, rfl, .inr (by decide), b * 48271, 11, rfl, rfl, .inl ⟨_, rfl, _, 2147483647, rfl, rfl, (show (0 : Int) < 2147483647 by decide), .ref r, rfl, r, _, 2, 2, rfl, rfl, hR1, rfl, ?_⟩⟩
        have hR2 : (upd H1 r (.lst [.ref sc, .int (a + 1), .int ((b * 48271 + 11) % 2147483647), .int c])) r = some (.lst [.ref sc, .int (a + 1), .int ((b * 48271 + 11) % 2147483647), .int c]) := upd_same
        refine ⟨.ref r, rfl, r, _, 2, .int ((b * 48271 + 11) % 2147483647), rfl, rfl, SqL.of hR2, rfl, _, 7, rfl, rfl, ⟨by decide, by decide⟩, .inl ⟨_, rfl, .int m, rfl, _, m, rfl, rfl, hm, ?_⟩⟩
        exact q _ _ (B1.upd _) ⟨sc, xs, a + 1, _, c, upd_same, sq_bt hR1 hS1 _, by omega, hc⟩ (hm0 _).1 (hm0 _).2
      | false =>
        refine iteF ?_
        have hlt : a < (xs.length : Int) := by
          have := of_decide_eq_false hb2
          omega
        obtain ⟨k, rfl⟩ : ∃ k : Nat, a = (k : Int) := ⟨a.toNat, by omega⟩
        have hk : k < xs.length := by omega
        refine ⟨.ref r, rfl, r, _, 0, .ref sc, rfl, rfl, SqL.of hR1, rfl, .ref r, rfl, r, _, 1, .int ((k : Int) + 1), rfl, rfl, SqL.of hR1, rfl, _, 1, rfl, rfl, sc, _, _, .int (at0 xs k), rfl, rfl, hS1, ?_, ?_⟩
        · rw [show ((k : Int) + 1 - 1) = (k : Int) by omega]
          exact at_int hk
        refine ⟨.ref r, rfl, r, _, 2, .int b, rfl, rfl, SqL.of hR1, rfl, b, 48271, rfl, rfl, .inr (by decide), .int (at0 xs k), rfl, b * 48271, at0 xs k, rfl, rfl, _, 11, rfl, rfl, .inl ⟨_, rfl, _, 2147483647, rfl, rfl, (show (0 : Int) < 2147483647 by decide), .ref r, rfl, r, _, 2, 2, rfl, rfl, hR1, rfl, ?_⟩⟩
        have hR2 : (upd H1 r (.lst [.ref sc, .int ((k : Int) + 1), .int ((b * 48271 + at0 xs k + 11) % 2147483647), .int c])) r = some (.lst [.ref sc, .int ((k : Int) + 1), .int ((b * 48271 + at0 xs k + 11) % 2147483647), .int c]) := upd_same
        have hS2 := sq_bt hR1 hS1 (.lst [.ref sc, .int ((k : Int) + 1), .int ((b * 48271 + at0 xs k + 11) % 2147483647), .int c])
        have B2 := B1.upd (.lst [.ref sc, .int ((k : Int) + 1), .int ((b * 48271 + at0 xs k + 11) % 2147483647), .int c])
        refine ⟨.int (at0 xs k), rfl, 10, 18, rfl, rfl, ⟨by decide, by decide, by decide⟩, at0 xs k, _, rfl, rfl, decide ((10 : Int) ^ (18 : Int).toNat ≤ at0 xs k), rfl, ?_⟩
        generalize hb3 : decide ((10 : Int) ^ (18 : Int).toNat ≤ at0 xs k) = bb
        cases bb with
        | true =>
          refine iteT ?_
          have h1 : (10 : Int) ^ (18 : Int).toNat ≤ at0 xs k := of_decide_eq_true hb3
          have h2 : 0 ≤ at0 xs k := Int.le_trans (by decide) h1
          refine ⟨.int (at0 xs k), rfl, .int m, rfl, at0 xs k, m, rfl, rfl, ⟨hm, hm2⟩, .ref r, rfl, r, _, 3, 3, rfl, rfl, hR2, rfl, ?_⟩
          refine ⟨.int (at0 xs k), rfl, .inl ⟨_, rfl, .int m, rfl, _, m, rfl, rfl, hm, ?_⟩⟩
          exact q _ _ (B2.upd _) ⟨sc, xs, (k : Int) + 1, _, at0 xs k / m, upd_same, sq_bt hR2 hS2 _, by omega, Int.ediv_nonneg h2 (by omega)⟩ (hm0 _).1 (hm0 _).2
        | false =>
          refine iteF ?_
          refine ⟨.int (at0 xs k), rfl, .inl ⟨_, rfl, .int m, rfl, _, m, rfl, rfl, hm, ?_⟩⟩
          exact q _ _ B2 ⟨sc, xs, (k : Int) + 1, _, c, hR2, hS2, by omega, hc⟩ (hm0 _).1 (hm0 _).2
end
end K13
namespace K13
open PySem PySem.Spec PyProof.Rows L2
section
variable {P : Program} {w : World} {K : PySem.W.Frag} {mg : Str → Option Value} {base : Heap}
/-! ### _law_pick -/
def spPick (K : PySem.W.Frag) : Sp := fun vs H Q _ => ∃ (r l : Addr) (xs : List Int), vs = [.ref r, .ref l] ∧ Rw K H r ∧ l ≠ r ∧ H l = some (.lst (xs.map V.int)) ∧ 0 < xs.length ∧ xs.length < 1000 ∧ ∀ H' x, Bt r H H' → Rw K H' r → x ∈ xs → Q (.int x) H'
theorem sc_pick : FnScope ["_law_row", "_law_things"] ["_law_row", "_law_things"] (defScope sPick) := ⟨rfl, rfl, rfl, by decide +kernel, rfl, by decide +kernel, by decide +kernel⟩
theorem ok_pick {f fT : Addr} {fd fdT : FuncData} (D : De K mg "_law_pick" sPick ["_law_row", "_law_things"] f fd) (X : Tx mg) (DT : De K mg "_law_taken" sTaken ["_law_row", "_law_many"] fT fdT)
    (GT : FnOk P w K mg base CX0 1 fT fdT ["_law_row", "_law_many"] (spTaken K)) : FnOk P w K mg base CX0 2 f fd ["_law_row", "_law_things"] (spPick K) := by
  refine D.F.ok sc_pick (fun vs H Q E h => ?_) (fun cdv A outer s H vs Q E hr h => ?_)
  · obtain ⟨r, l, xs, rfl, _⟩ := h
    rfl
  · obtain ⟨r, l, xs, rfl, hR, hne, hL, h0, h1, q⟩ := h
    refine ⟨_, pss_one (ps_ret (pe_ix ix_list (pv 1) (pe_call GT hr (by rfl) DT.g DT.F.kp DT.b .nil pass0 (pa_cons (pv 0) (pa_cons (pe_callB call_len (by rfl) X.len (by decide +kernel) (pa_cons (pv 1) pa_nil)) pa_nil))) (fun _ _ => rfl))), ?_⟩
    refine ⟨.ref l, rfl, .ref r, rfl, .ref l, rfl, .ref l, _, rfl, .inl ⟨_, SqL.of hL, rfl⟩, r, _, rfl, ?_, ?_, hR, fun H' d hb hR' d0 d1 => ?_⟩
    · rw [List.length_map]; omega
    · rw [List.length_map]; omega
    · rw [List.length_map] at d1
      obtain ⟨k, rfl⟩ : ∃ k : Nat, d = (k : Int) := ⟨d.toNat, by omega⟩
      have hk : k < xs.length := by omega
      exact ⟨l, _, _, .int (at0 xs k), rfl, rfl, SqL.of ((hb l hne).trans hL), at_int hk, q H' _ hb hR' (List.mem_of_getElem? (at0_get hk))⟩
/-! ### _law_alike: of two that are the same -/
def spAlike (K : PySem.W.Frag) : Nat → Sp
  | 0 => fun _ _ _ _ => False
  | d + 1 => fun vs H Q _ => (∃ i, vs = [.int i, .int i] ∧ ∀ H', Same H H' → Q (.bl true) H') ∨ (∃ b, vs = [.bl b, .bl b] ∧ ∀ H', Same H H' → Q (.bl true) H') ∨
      ∃ (a b : Addr) (xs : List Int), 0 < d ∧ vs = [.ref a, .ref b] ∧ SqT K H a (xs.map V.int) ∧ SqT K H b (xs.map V.int) ∧ xs.length ≤ 1000 ∧ ∀ H', Same H H' → Q (.bl true) H'
theorem sc_alike : FnScope ["_law_found", "_law_due", "_law_k"] ["_law_found", "_law_due"] (defScope sAlike) := ⟨rfl, rfl, rfl, by decide +kernel, rfl, by decide +kernel, by decide +kernel⟩
theorem ok_alike0 {f : Addr} {fd : FuncData} (D : De K mg "_law_alike" sAlike ["_law_found", "_law_due"] f fd) : FnOk P w K mg base CX0 1 f fd ["_law_found", "_law_due"] (spAlike K 0) := by
  refine D.F.ok sc_alike (fun vs H Q E h => h.elim) (fun cdv A outer s H vs Q E hr h => h.elim)
theorem eqv_nil : PyData.eqv (.list ([] : List PyData)) (.list []) = true := by
  rw [PyData.eqv]
  rfl
theorem kit2 {a b c : String} {r : Bool} (h : (match kitB a b with | some true => some true | some false => (match kitB a c with | some true => some true | some false => some false | none => none) | none => none) = some r) : PySem.W.kitAny K (.type a) [.type b, .type c] = some r := h
theorem ok_alike1 {f : Addr} {fd : FuncData} {k d : Nat} (D : De K mg "_law_alike" sAlike ["_law_found", "_law_due"] f fd) (X : Tx mg) (GX : FnOk P w K mg base CX0 k f fd ["_law_found", "_law_due"] (spAlike K d)) : FnOk P w K mg base CX0 (k + 1) f fd ["_law_found", "_law_due"] (spAlike K (d + 1)) := by
  refine D.F.ok sc_alike (fun vs H Q E h => ?_) (fun cdv A outer s H vs Q E hr h => ?_)
  · rcases h with ⟨i, rfl, _⟩ | ⟨b, rfl, _⟩ | ⟨a, b, xs, _, rfl, _⟩ <;> rfl
  · refine ⟨_, pss_cons (ps_if (pt_val (pe_callB call_isiT (by rfl) X.isi (by decide +kernel) (pa_cons (pv 1) (pa_cons (pe_tup (pa_cons (pe_bltn (v := .ty "tuple") (by rfl) X.tuple (by decide +kernel) rfl) (pa_cons (pe_bltn (v := .ty "list") (by rfl) X.list (by decide +kernel) rfl) pa_nil))) pa_nil))))
        (pss_cons (ps_if (PW.pt (pw_or (pt_not (pt_val (pe_callB call_isiT (by rfl) X.isi (by decide +kernel) (pa_cons (pv 0) (pa_cons (pe_tup (pa_cons (pe_bltn (v := .ty "tuple") (by rfl) X.tuple (by decide +kernel) rfl) (pa_cons (pe_bltn (v := .ty "list") (by rfl) X.list (by decide +kernel) rfl) pa_nil))) pa_nil)))))
            (pw_or1 (pt_cmpR op_ne (pe_callB call_isi (by rfl) X.isi (by decide +kernel) (pa_cons (pv 0) (pa_cons (pe_bltn (v := .ty "list") (by rfl) X.list (by decide +kernel) rfl) pa_nil))) (pe_callB call_isi (by rfl) X.isi (by decide +kernel) (pa_cons (pv 1) (pa_cons (pe_bltn (v := .ty "list") (by rfl) X.list (by decide +kernel) rfl) pa_nil))) (nomark _)))))
          (pss_one (ps_ret pe_bl)) pss_nil)
        (pss_cons (ps_if (pt_cmp (pc_neI (pe_callB call_len (by rfl) X.len (by decide +kernel) (pa_cons (pv 0) pa_nil)) (pe_callB call_len (by rfl) X.len (by decide +kernel) (pa_cons (pv 1) pa_nil)))) (pss_one (ps_ret pe_bl)) pss_nil)
        (pss_one (ps_ret (pe_cmpR (op_eqD hr.units) (pe_lc (own := [("_law_k", 2)]) (g := gName 2) rfl sc_alike.nd (pi_range1 (by rfl) X.range (pa_cons (pe_callB call_len (by rfl) X.len (by decide +kernel) (pa_cons (pv 1) pa_nil)) pa_nil)) (blkOk_by (N := ["_law_found", "_law_due", "_law_k"]) (sc := defScope sAlike) (by decide +kernel))
          (fun _ _ _ _ _ => pg_name (i := 2) sc_alike.nd rfl (.inl rfl)) (fun _ _ _ _ _ => pts_one (pt_not (pt_val (pe_call GX hr (by rfl) D.g D.F.kp D.b .nil pass0 (pa_cons (pe_ix (r := rIxT K) ix_tup (pv 0) (pv 2) (fun _ _ => rfl)) (pa_cons (pe_ix (r := rIxT K) ix_tup (pv 1) (pv 2) (fun _ _ => rfl)) pa_nil)))))) (fun _ _ _ _ _ => pv 2)) (pe_lst pa_nil) (nomark _))))))
        pss_nil)
      (pss_cons (ps_if (PW.pt (pw_or (pt_cmp (pc_isN (pv 1))) (pw_or1 (pt_val (pe_callB call_isi (by rfl) X.isi (by decide +kernel) (pa_cons (pv 1) (pa_cons (pe_bltn (v := .ty "str") (by rfl) X.str (by decide +kernel) rfl) pa_nil))))))) (pss_one ps_never) pss_nil)
      (pss_one (ps_ret (pe_and (pe_callB call_isi (by rfl) X.isi (by decide +kernel) (pa_cons (pv 0) (pa_cons (pe_bltn (v := .ty "int") (by rfl) X.int (by decide +kernel) rfl) pa_nil)))
        (pe_and (pe_cmpR op_eq (pe_callB call_isi (by rfl) X.isi (by decide +kernel) (pa_cons (pv 0) (pa_cons (pe_bltn (v := .ty "bool") (by rfl) X.bool (by decide +kernel) rfl) pa_nil))) (pe_callB call_isi (by rfl) X.isi (by decide +kernel) (pa_cons (pv 1) (pa_cons (pe_bltn (v := .ty "bool") (by rfl) X.bool (by decide +kernel) rfl) pa_nil))) (nomark _))
          (pe_one (pe_cmpR op_eq (pv 0) (pv 1) (nomark _)))))))), ?_⟩
    have hcl : Paired ClsV [V.ty "tuple", V.ty "list"] [Value.type "tuple", Value.type "list"] := .cons (.ty _) (.cons (.ty _) .nil)
    rcases h with ⟨i, rfl, q⟩ | ⟨b, rfl, q⟩ | ⟨a, b, xs, hd, rfl, hA, hB, hl, q⟩
    · have t1 : TyX K H (.int i) (.type "int") := .base (.int i)
      refine ⟨.int i, rfl, by show 2 ≤ sizeLine; rw [sizeLine_eq]; decide, fun T nT => ⟨.int i, T, _, .type "int", _, false, rfl, upd_same, hcl, .base (.int i), kit2 (by decide +kernel), false, rfl, iteF ?_⟩⟩
      refine ⟨.int i, rfl, false, congrArg V.bl (decide_eq_false fun z => nomatch z), iteF ⟨.int i, rfl, .int i, .ty "str", .type "int", .type "str", false, rfl, .ty _, .base (.int i), kit_ty (by decide +kernel), false, rfl, iteF ?_⟩⟩
      refine ⟨.int i, rfl, .int i, .ty "int", .type "int", .type "int", true, rfl, .ty _, .base (.int i), kit_ty (by decide +kernel), true, rfl, iteT ⟨.int i, rfl, .int i, .ty "bool", .type "int", .type "bool", false, rfl, .ty _, .base (.int i), kit_ty (by decide +kernel), .int i, rfl, .int i, .ty "bool", .type "int", .type "bool", false, rfl, .ty _, .base (.int i), kit_ty (by decide +kernel), rfl, true, congrArg V.bl (decide_eq_true rfl), iteT ⟨.int i, rfl, .int i, rfl, rfl, ?_⟩⟩⟩
      rw [show decide (V.int i = V.int i) = true from decide_eq_true rfl]
      exact q _ (same_upd nT)
    · refine ⟨.bl b, rfl, by show 2 ≤ sizeLine; rw [sizeLine_eq]; decide, fun T nT => ⟨.bl b, T, _, .type "bool", _, false, rfl, upd_same, hcl, .base (.bl b), kit2 (by decide +kernel), false, rfl, iteF ?_⟩⟩
      refine ⟨.bl b, rfl, false, congrArg V.bl (decide_eq_false fun z => nomatch z), iteF ⟨.bl b, rfl, .bl b, .ty "str", .type "bool", .type "str", false, rfl, .ty _, .base (.bl b), kit_ty (by decide +kernel), false, rfl, iteF ?_⟩⟩
      refine ⟨.bl b, rfl, .bl b, .ty "int", .type "bool", .type "int", true, rfl, .ty _, .base (.bl b), kit_ty (by decide +kernel), true, rfl, iteT ⟨.bl b, rfl, .bl b, .ty "bool", .type "bool", .type "bool", true, rfl, .ty _, .base (.bl b), kit_ty (by decide +kernel), .bl b, rfl, .bl b, .ty "bool", .type "bool", .type "bool", true, rfl, .ty _, .base (.bl b), kit_ty (by decide +kernel), rfl, true, congrArg V.bl (decide_eq_true rfl), iteT ⟨.bl b, rfl, .bl b, rfl, rfl, ?_⟩⟩⟩
      rw [show decide (V.bl b = V.bl b) = true from decide_eq_true rfl]
      exact q _ (same_upd nT)
    · obtain ⟨d, rfl⟩ : ∃ d', d = d' + 1 := ⟨d - 1, by omega⟩
      refine ⟨.ref b, rfl, by show 2 ≤ sizeLine; rw [sizeLine_eq]; decide, fun T nT => ?_⟩
      have s1 : Same H (upd H T (.tup [.ty "tuple", .ty "list"])) := same_upd nT
      refine ⟨.ref b, T, _, .type "tuple", _, true, rfl, upd_same, hcl, tyT (sameT s1 hB), kit2 (by decide +kernel), true, rfl, iteT ?_⟩
      refine ⟨.ref a, rfl, by show 2 ≤ sizeLine; rw [sizeLine_eq]; decide, fun T2 nT2 => ?_⟩
      have s2 : Same H (upd (upd H T (.tup [.ty "tuple", .ty "list"])) T2 (.tup [.ty "tuple", .ty "list"])) := s1.trans (same_upd nT2)
      have hA2 := sameT s2 hA
      have hB2 := sameT s2 hB
      refine ⟨.ref a, T2, _, .type "tuple", _, true, rfl, upd_same, hcl, tyT hA2, kit2 (by decide +kernel), true, rfl, iteF ⟨.ref a, rfl, .ref a, .ty "list", .type "tuple", .type "list", false, rfl, .ty _, tyT hA2, kit_ty (by decide +kernel), .ref b, rfl, .ref b, .ty "list", .type "tuple", .type "list", false, rfl, .ty _, tyT hB2, kit_ty (by decide +kernel), rfl, false, congrArg (fun z => V.bl (!z)) (decide_eq_true rfl), iteF ?_⟩⟩
      refine ⟨.ref a, rfl, .ref a, _, rfl, .inr ⟨_, hA2, rfl⟩, .ref b, rfl, .ref b, _, rfl, .inr ⟨_, hB2, rfl⟩, _, _, rfl, rfl, false, congrArg (fun z => V.bl (!z)) (decide_eq_true rfl), iteF ?_⟩
      refine ⟨.ref b, rfl, .ref b, _, rfl, .inr ⟨_, hB2, rfl⟩, _, rfl, by rw [List.length_map]; omega, by rw [List.length_map]; omega, fun D nD => ?_⟩
      refine lc_range (fun i H3 => Same H H3 ∧ H3 D = some (.lst [])) ⟨s2.trans (same_upd nD), upd_same⟩ (fun i H3 hi ⟨sm, hD⟩ => ?_) (fun H3 ⟨sm, hD⟩ => ?_)
      · rw [List.length_map] at hi
        have hi2 : i < xs.length := by omega
        have e0 : atI (xs.map V.int) (0 + (i : Int)) = some (.int (at0 xs i)) := by
          rw [Int.zero_add]
          exact at_int hi2
        refine ⟨rfl, .ref a, rfl, .int (0 + (i : Int)), rfl, a, _, _, .int (at0 xs i), rfl, rfl, sameT sm hA, e0, .ref b, rfl, .int (0 + (i : Int)), rfl, b, _, _, .int (at0 xs i), rfl, rfl, sameT sm hB, e0, .inl ⟨at0 xs i, rfl, fun H4 s4 => ⟨true, rfl, iteF ⟨sm.trans s4, s4 _ _ hD⟩⟩⟩⟩
      · refine ⟨Nat.zero_le _, fun p np => ⟨.list [], .list [], .lst (SqL.of (same_upd np _ _ hD)) .nil, .lst (SqL.of upd_same) .nil, shaped_list [], shaped_list [], ?_⟩⟩
        rw [eqv_nil]
        exact q _ (sm.trans (same_upd np))
theorem ok_alike {f : Addr} {fd : FuncData} (D : De K mg "_law_alike" sAlike ["_law_found", "_law_due"] f fd) (X : Tx mg) : FnOk P w K mg base CX0 3 f fd ["_law_found", "_law_due"] (spAlike K 2) := ok_alike1 D X (ok_alike1 D X (ok_alike0 D))
end
end K13
namespace K13
open PySem PySem.Spec PyProof.Rows L2
theorem flat_ints (l : List Int) : (l.map V.int).all flatV = true := by
  rw [List.all_eq_true]
  intro x hx
  obtain ⟨i, _, rfl⟩ := List.mem_map.mp hx
  rfl
theorem in_ints (p : Int) (l : List Int) : inV (.int p) (l.map V.int) = decide (p ∈ l) := by
  unfold inV
  rw [List.any_map, Bool.eq_iff_iff, List.any_eq_true, decide_eq_true_iff]
  constructor
  · rintro ⟨x, hx, e⟩
    have : x = p := beq_iff_eq.mp e
    rw [← this]
    exact hx
  · exact fun h => ⟨p, h, beq_iff_eq.mpr rfl⟩
theorem next_mod {n p : Int} (hn : 0 < n) (h0 : 0 ≤ p) (h1 : p < n) : (if p + 1 < n then p + 1 else 0) = (p + 1) % n := by
  by_cases h : p + 1 < n
  · rw [if_pos h, Int.emod_eq_of_lt (by omega) h]
  · rw [if_neg h, show p + 1 = n by omega, Int.emod_self]
section
variable {P : Program} {w : World} {K : PySem.W.Frag} {mg : Str → Option Value} {base : Heap}
/-! ### _law_spots -/
theorem sc_lspots : FnScope ["_law_size", "_law_wishes_here", "_law_found", "_law_wish"] ["_law_size", "_law_wishes_here"] (defScope sLSpots) := ⟨rfl, rfl, rfl, by decide +kernel, rfl, by decide +kernel, by decide +kernel⟩
theorem ok_lspots {f : Addr} {fd : FuncData} (D : De K mg "_law_spots" sLSpots ["_law_size", "_law_wishes_here"] f fd) : FnOk P w K mg base CX0 1 f fd ["_law_size", "_law_wishes_here"] (spSpots K) := by
  refine D.F.ok sc_lspots (fun vs H Q E h => ?_) (fun cdv A outer s H vs Q E hr h => ?_)
  · obtain ⟨n, a, ws, rfl, _⟩ := h
    rfl
  · obtain ⟨n, a, ws, rfl, hn, hS, hl, hn9, hw, q⟩ := h
    refine ⟨_, pss_cons (ps_set (i := 2) sc_lspots.nd rfl (.inl rfl) (pe_lst pa_nil))
      (pss_cons (ps_for PassesOwn.never rfl (pi_tup (pv 1)) (pg_name (i := 3) sc_lspots.nd rfl (.inl rfl))
        (pss_cons (ps_while PassesOwn.never (pt_cmpR op_in_seq (pv 3) (pv 2) rfl) (pss_one (ps_set (i := 3) sc_lspots.nd rfl (.inl rfl) (pe_ifExp (pt_cmp (pc_lt (pe_op op_add (pv 3) pe_int) (pv 0))) (pe_op op_add (pv 3) pe_int) pe_int))))
        (pss_one (ps_expr (pe_bm PySem.F.plainAttrs_list PySem.F.slot_list_append PySem.F.type_list_append mt_append (pv 2) (pa_cons (pv 3) pa_nil))))))
      (pss_one (ps_ret (pv 2)))), ?_⟩
    refine ⟨Nat.zero_le _, fun l nl => ?_⟩
    refine ⟨.ref a, rfl, a, rfl, ⟨_, sameT (same_upd nl) hS⟩, for_tup (K := K) (a := a) (xs := ws.map V.int) (fun i σ H1 => ∃ y, σ = [some (.int n), some (.ref a), some (.ref l), y] ∧ Same H H1 ∧ H1 l = some (.lst ((spk n ws i).map V.int))) ?_ ?_ ?_ ?_⟩
    · exact ⟨none, rfl, same_upd nl, upd_same⟩
    · rintro i σ H1 _ ⟨y, _, sm, _⟩
      exact sameT sm hS
    · rintro i x σ H1 hx ⟨y, rfl, sm, hL⟩
      obtain ⟨hi, rfl⟩ := get_ws hx
      have hwi := hw.at_ hi
      have KN := know (stay := lastS) hn hw hl i (by omega)
      have F := KN.fr hn hw hi hl
      refine ⟨fun m σ' H' => ∃ p, σ' = [some (.int n), some (.ref a), some (.ref l), some (.int p)] ∧ H' = H1 ∧ nxt n m (spk n ws i) p = nxt n n.toNat (spk n ws i) (at0 ws i) ∧ Fr n m (stt lastS n ws i).1 p ∧ 0 ≤ p ∧ p < n,
        ⟨n.toNat, at0 ws i, rfl, rfl, rfl, F, hwi.1, hwi.2⟩, ?_⟩
      rintro m σ' H' ⟨p, rfl, rfl, e, hf, p0, p1⟩
      refine ⟨.int p, rfl, .ref l, rfl, l, _, rfl, .inl (SqL.of hL), rfl, flat_ints _, decide (p ∈ spk n ws i), congrArg V.bl (in_ints p _), ?_⟩
      by_cases hp : p ∈ spk n ws i
      · rw [decide_eq_true hp]
        refine iteT ?_
        obtain ⟨m', rfl⟩ : ∃ m', m = m' + 1 := by
          cases m with
          | zero => exact absurd hf ((KN.keys p).mpr hp)
          | succ m' => exact ⟨m', rfl⟩
        refine ⟨fun σ'' H'' => σ'' = [some (.int n), some (.ref a), some (.ref l), some (.int ((p + 1) % n))] ∧ H'' = H', ?_, ?_⟩
        · rintro σ'' H'' ⟨rfl, rfl⟩
          refine ⟨m', Nat.lt_succ_self _, _, rfl, rfl, ?_, ?_, Int.emod_nonneg _ (by omega), Int.emod_lt_of_pos _ hn⟩
          · rw [← e, nxt_yes hp]
          · rcases hf with z | z
            · exact absurd z ((KN.keys p).mpr hp)
            · exact z
        · have en := next_mod hn p0 p1
          refine ⟨.int p, rfl, p, 1, rfl, rfl, .int n, rfl, p + 1, n, rfl, rfl, decide (p + 1 < n), rfl, ?_⟩
          by_cases hlt : p + 1 < n
          · rw [if_pos hlt] at en
            rw [decide_eq_true hlt, ← en]
            exact iteT ⟨.int p, rfl, p, 1, rfl, rfl, rfl, rfl⟩
          · rw [if_neg hlt] at en
            rw [decide_eq_false hlt, ← en]
            exact iteF ⟨rfl, rfl⟩
      · rw [decide_eq_false hp]
        refine iteF ?_
        rw [nxt_no hp] at e
        subst e
        refine ⟨.ref l, rfl, .inl ⟨rfl, _, SqL.of hL⟩, .int _, rfl, l, _, _, rfl, rfl, hL, ?_, ?_⟩
        · rw [List.length_map, spk_len, sizeLine_eq]
          omega
        · refine ⟨some (.int _), rfl, fun b o eb => ?_, ?_⟩
          · rw [upd_ne (ne_of_none eb nl)]
            exact sm b o eb
          · rw [upd_same]
            show _ = some (HO.lst ((spk n ws i ++ [_]).map V.int))
            rw [List.map_append]
            rfl
    · rintro σ H1 ⟨y, rfl, sm, hL⟩
      refine ⟨.ref l, rfl, q H1 l sm nl ?_⟩
      rw [List.length_map] at hL
      exact hL
/-! ### _law_wishes -/
theorem Rw.same {H H' : Hp} {r : Addr} (h : Rw K H r) (e : Same H H') : Rw K H' r := by
  obtain ⟨sc, xs, a, b, c, hR, hS, ha, hc⟩ := h
  exact ⟨sc, xs, a, b, c, e _ _ hR, e.seq hS, ha, hc⟩
theorem Rw.wr {H : Hp} {r D : Addr} (h : Rw K H r) (n : D ≠ r) (zs : List Int) : Rw K (upd H D (.lst (zs.map V.int))) r := by
  obtain ⟨sc, xs, a, b, c, hR, hS, ha, hc⟩ := h
  have hR' : (upd H D (.lst (zs.map V.int))) r = some (.lst [.ref sc, .int a, .int b, .int c]) := by rw [upd_ne (Ne.symm n)]; exact hR
  by_cases e : sc = D
  · exact ⟨sc, zs, a, b, c, hR', by rw [e]; exact SqL.of upd_same, ha, hc⟩
  · refine ⟨sc, xs, a, b, c, hR', ?_, ha, hc⟩
    rcases hS with (h | ⟨o, h⟩) | h
    · exact .inl (.inl (by rw [upd_ne e]; exact h))
    · exact .inl (.inr ⟨o, by rw [upd_ne e]; exact h⟩)
    · exact .inr h
theorem Rw.at_ {H : Hp} {r : Addr} (h : Rw K H r) : ∃ ys, H r = some (.lst ys) := let ⟨_, _, _, _, _, hR, _⟩ := h; ⟨_, hR⟩
/-- all that was tracked is as it was, but for the row -/
def Br (r : Addr) (H H' : Hp) : Prop := ∀ b o, b ≠ r → H b = some o → H' b = some o
theorem Br.refl {r : Addr} (H : Hp) : Br r H H := fun _ _ _ e => e
theorem Br.bt {r : Addr} {H H1 H2 : Hp} (h : Br r H H1) (k : Bt r H1 H2) : Br r H H2 := fun b o hb e => (k b hb).trans (h b o hb e)
theorem Br.sm {r : Addr} {H H1 H2 : Hp} (h : Br r H H1) (k : Same H1 H2) : Br r H H2 := fun b o hb e => k b o (h b o hb e)
def spWishes (K : PySem.W.Frag) : Sp := fun vs H Q _ => ∃ (r : Addr) (n : Int), vs = [.ref r, .int n] ∧ 2 ≤ n ∧ n ≤ 9 ∧ Rw K H r ∧ ∀ H' p (ws : List Int), Br r H H' → p ≠ r → H' p = some (.tup (ws.map V.int)) → WsOk n ws → (ws.length : Int) ≤ n → Q (.ref p) H'
theorem sc_lwishes : FnScope ["_law_row", "_law_size", "_law_near", "_law_many", "_law_k"] ["_law_row", "_law_size"] (defScope sLWishes) := ⟨rfl, rfl, rfl, by decide +kernel, rfl, by decide +kernel, by decide +kernel⟩
theorem ok_lwishes {f fT fP : Addr} {fd fdT fdP : FuncData} (D : De K mg "_law_wishes" sLWishes ["_law_row", "_law_size"] f fd) (X : Tx mg) (DT : De K mg "_law_taken" sTaken ["_law_row", "_law_many"] fT fdT) (DP : De K mg "_law_pick" sPick ["_law_row", "_law_things"] fP fdP)
    (GT : FnOk P w K mg base CX0 1 fT fdT ["_law_row", "_law_many"] (spTaken K)) (GP : FnOk P w K mg base CX0 2 fP fdP ["_law_row", "_law_things"] (spPick K)) : FnOk P w K mg base CX0 3 f fd ["_law_row", "_law_size"] (spWishes K) := by
  refine D.F.ok sc_lwishes (fun vs H Q E h => ?_) (fun cdv A outer s H vs Q E hr h => ?_)
  · obtain ⟨r, n, rfl, _⟩ := h
    rfl
  · obtain ⟨r, n, rfl, h2, h9, hR, q⟩ := h
    refine ⟨_, pss_cons (ps_asg (pe_tup (pa_cons (pe_call GT (hr.mono (by decide)) (by rfl) DT.g DT.F.kp DT.b .nil pass0 (pa_cons (pv 0) (pa_cons (pv 1) pa_nil))) (pa_cons (pe_call GT (hr.mono (by decide)) (by rfl) DT.g DT.F.kp DT.b .nil pass0 (pa_cons (pv 0) (pa_cons (pe_op op_add (pv 1) pe_int) pa_nil))) pa_nil)))
        (pg_tup rfl (pgs_cons (pg_name (i := 2) sc_lwishes.nd rfl (.inr rfl)) (pgs_cons (pg_name (i := 3) sc_lwishes.nd rfl (.inl rfl)) pgs_nil))))
      (pss_one (ps_ret (pe_callTy call_tuple_of (by rfl) X.tuple (by decide +kernel) (pa_cons (pe_lc (own := [("_law_k", 4)]) (g := gName 4) (tt := tYes) rfl sc_lwishes.nd (pi_range1 (by rfl) X.range (pa_cons (pv 3) pa_nil)) (blkOk_by (N := ["_law_row", "_law_size", "_law_near", "_law_many", "_law_k"]) (sc := defScope sLWishes) (by decide +kernel))
          (fun _ _ _ _ _ => pg_name (i := 4) sc_lwishes.nd rfl (.inl rfl)) (fun _ _ _ _ _ => pts_nil) (fun _ _ _ _ _ => pe_call GP hr (by rfl) DP.g DP.F.kp DP.b .nil pass0 (pa_cons (pv 0) (pa_cons (pe_lst (pa_cons (pv 2) (pa_cons (pe_call GT (hr.mono (by decide)) (by rfl) DT.g DT.F.kp DT.b .nil pass0 (pa_cons (pv 0) (pa_cons (pv 1) pa_nil)))
            (pa_cons (pe_op op_mod (pe_op op_add (pv 2) (pe_call GT (hr.mono (by decide)) (by rfl) DT.g DT.F.kp DT.b .nil pass0 (pa_cons (pv 0) (pa_cons pe_int pa_nil)))) (pv 1)) pa_nil)))) pa_nil)))) pa_nil)))), ?_⟩
    refine ⟨.ref r, rfl, .int n, rfl, r, n, rfl, by omega, by omega, hR, fun H1 near hb1 hR1 n0 n1 => ?_⟩
    refine ⟨.ref r, rfl, .int n, rfl, n, 1, rfl, rfl, r, n + 1, rfl, by omega, by omega, hR1, fun H2 many hb2 hR2 m0 m1 => ?_⟩
    refine ⟨by show 2 ≤ sizeLine; rw [sizeLine_eq]; decide, fun T nT => ?_⟩
    refine ⟨T, _, rfl, .inl (.inl upd_same), rfl, _, _, rfl, _, _, rfl, rfl, ?_⟩
    have b2 : Br r H (upd H2 T (.tup [.int near, .int many])) := (((Br.refl H).bt hb1).bt hb2).sm (same_upd nT)
    have r2 : Rw K (upd H2 T (.tup [.int near, .int many])) r := hR2.same (same_upd nT)
    refine ⟨.int many, rfl, many, rfl, by omega, by omega, fun D nD => ?_⟩
    have hDr : D ≠ r := fun z => by
      obtain ⟨ys, e⟩ := r2.at_
      rw [← z, nD] at e
      cases e
    have nDH : H D = none := by
      have e1 : H1 D = H D := hb1 D hDr
      have e2 : H2 D = H1 D := hb2 D hDr
      rw [← e1, ← e2]
      cases e : H2 D with
      | none => rfl
      | some o =>
        have := same_upd (o := .tup [.int near, .int many]) nT D o e
        rw [nD] at this
        cases this
    refine lc_range (fun i H3 => Br r H H3 ∧ Rw K H3 r ∧ ∃ ws : List Int, H3 D = some (.lst (ws.map V.int)) ∧ ws.length = i ∧ WsOk n ws) ⟨b2.sm (same_upd nD), r2.same (same_upd nD), [], upd_same, rfl, fun x h => absurd h (by simp)⟩ ?_ ?_
    · rintro i H3 hi ⟨b3, hR3, ws, hD3, hws, hok⟩
      refine ⟨rfl, ?_⟩
      refine ⟨.ref r, rfl, .int near, rfl, .ref r, rfl, .int n, rfl, r, n, rfl, by omega, by omega, hR3, fun H4 d1 hb4 hR4 a0 a1 => ?_⟩
      refine ⟨.int near, rfl, .ref r, rfl, r, 3, rfl, by decide, by decide, hR4, fun H5 d2 hb5 hR5 c0 c1 => ?_⟩
      refine ⟨near, d2, rfl, rfl, .int n, rfl, near + d2, n, rfl, rfl, show (0 : Int) < n by omega, by show 3 ≤ sizeLine; rw [sizeLine_eq]; decide, fun L nL => ?_⟩
      have b5 : Br r H3 H5 := ((Br.refl H3).bt hb4).bt hb5
      have hLr : L ≠ r := fun z => by
        obtain ⟨ys, e⟩ := hR5.at_
        rw [← z, nL] at e
        cases e
      have hx3 : ∀ x ∈ [near, d1, (near + d2) % n], 0 ≤ x ∧ x < n := by
        intro x hx
        simp only [List.mem_cons, List.not_mem_nil, or_false] at hx
        rcases hx with rfl | rfl | rfl
        · exact ⟨n0, n1⟩
        · exact ⟨a0, a1⟩
        · exact ⟨Int.emod_nonneg _ (by omega), Int.emod_lt_of_pos _ (by omega)⟩
      refine ⟨r, L, [near, d1, (near + d2) % n], rfl, hR5.same (same_upd nL), hLr, upd_same, show 0 < 3 by decide, show 3 < 1000 by decide, fun H6 x hb6 hR6 hx => ?_⟩
      have b6 : Br r H3 H6 := (b5.sm (same_upd nL)).bt hb6
      refine ⟨ws.map V.int, b6 D _ hDr hD3, ?_, fun b o hb e => ?_, ?_, ws ++ [x], ?_, ?_, fun y hy => ?_⟩
      · rw [List.length_map, sizeLine_eq]
        omega
      · rw [upd_ne (fun z => ?_)]
        · exact b6 b o hb (b3 b o hb e)
        · rw [z, nDH] at e
          cases e
      · have := hR6.wr hDr (ws ++ [x])
        rw [List.map_append] at this
        exact this
      · rw [upd_same, List.map_append]
        rfl
      · rw [List.length_append, hws]
        rfl
      · rcases List.mem_append.mp hy with z | z
        · exact hok y z
        · rw [List.mem_singleton] at z
          rw [z]
          exact hx3 x hx
    · rintro H3 ⟨b3, hR3, ws, hD3, hws, hok⟩
      refine ⟨D, _, rfl, .inl ⟨SqL.of hD3, fun p np => ?_⟩⟩
      refine q _ p ws (b3.sm (same_upd np)) (fun z => ?_) upd_same hok (by omega)
      obtain ⟨ys, e⟩ := hR3.at_
      rw [← z, np] at e
      cases e
end
end K13
namespace K13
open PySem PySem.Spec PyProof.Rows L2
/-- a part of a row -/
def cutI (xs : List Int) (lo hi : Option Int) : List Int := (xs.drop (HT.sIx xs.length 0 lo)).take (HT.sIx xs.length xs.length hi - HT.sIx xs.length 0 lo)
theorem cutI_map (xs : List Int) (lo hi : Option Int) : cutV (xs.map V.int) lo hi = (cutI xs lo hi).map V.int := by
  unfold cutV cutI
  rw [List.length_map, List.map_take, List.map_drop]
theorem cutI_mem {xs : List Int} {lo hi : Option Int} {x : Int} (h : x ∈ cutI xs lo hi) : x ∈ xs := List.mem_of_mem_drop (List.mem_of_mem_take h)
theorem cutI_len (xs : List Int) (lo hi : Option Int) : (cutI xs lo hi).length ≤ xs.length := by
  unfold cutI
  rw [List.length_take, List.length_drop]
  omega
theorem cutI_tail (w : Int) (ws : List Int) : cutI (w :: ws) (some 1) none = ws := by
  unfold cutI
  rw [show HT.sIx (w :: ws).length 0 (some 1) = 1 by
    rw [show (some (1 : Int)) = some ((1 : Nat) : Int) from rfl, HT.sIx_nat, List.length_cons]
    omega]
  show List.take (ws.length + 1 - 1) ws = ws
  exact List.take_of_length_le (by omega)
theorem cutI_head (xs : List Int) (k : Nat) : (cutI xs none (some (k : Int))).length ≤ k := by
  unfold cutI
  rw [HT.sIx_nat, List.length_take]
  show min (min k xs.length - 0) _ ≤ k
  omega
section
variable {P : Program} {w : World} {K : PySem.W.Frag} {mg : Str → Option Value} {base : Heap}
theorem noPart {σ : L2.St} {H : Hp} {Q : Option Int → Hp → Prop} (h : Q none H) : tNoPart σ H Q := h
theorem slI {H : Hp} {a : Addr} {xs : List Int} {lo hi : Option Int} {Q : VK} (h : SqT K H a (xs.map V.int)) (q : ∀ H' b, Same H H' → SqT K H' b ((cutI xs lo hi).map V.int) → Q (.ref b) H') : rSlA K (.ref a) lo hi H Q := by
  refine ⟨a, _, rfl, h, fun hw => ?_, fun _ p np => ?_⟩
  · refine q H a (Same.refl H) ?_
    have e : cutI xs lo hi = xs := by
      unfold cutI
      rw [List.length_map] at hw
      rw [hw.1, hw.2]
      exact List.take_of_length_le (Nat.le_refl _)
    rw [e]
    exact h
  · refine q _ p (same_upd np) (.inl (.inl ?_))
    rw [upd_same, cutI_map]
theorem catI {H : Hp} {a b : Addr} {xs ys : List Int} {Q : VK} (h : SqT K H a (xs.map V.int)) (k : SqT K H b (ys.map V.int)) (hl : xs.length + ys.length ≤ 5000) (q : ∀ H' c, Same H H' → SqT K H' c ((xs ++ ys).map V.int) → Q (.ref c) H') : rCatA K (.ref a) (.ref b) H Q := by
  refine ⟨a, b, _, _, rfl, rfl, h, k, ?_, fun e => ?_, fun _ e => ?_, fun _ _ p np => ?_⟩
  · rw [List.length_map, List.length_map, sizeLine_eq]
    omega
  · have : xs = [] := List.map_eq_nil_iff.mp e
    subst this
    exact q H b (Same.refl H) k
  · have : ys = [] := List.map_eq_nil_iff.mp e
    subst this
    refine q H a (Same.refl H) ?_
    rw [List.append_nil]
    exact h
  · refine q _ p (same_upd np) (.inl (.inl ?_))
    rw [upd_same, List.map_append]
/-! ### _law_least -/
def spLeast (K : PySem.W.Frag) (d : Nat) : Sp := fun vs H Q _ => ∃ (n : Int) (a b : Addr) (ws ps : List Int), vs = [.int n, .ref a, .ref b] ∧ 0 < n ∧ SqT K H a (ws.map V.int) ∧ SqL K H b (ps.map V.int) ∧ ws.length < d ∧ ws.length ≤ 9 ∧ ps.length ≤ 9 ∧
  ∀ H', Same H H' → Q (.int (least n ws ps)) H'
theorem sc_lleast : FnScope ["_law_size", "_law_wishes_here", "_law_places", "_law_found", "_law_place", "_law_rest", "_law_one"] ["_law_size", "_law_wishes_here", "_law_places"] (defScope sLeast) := ⟨rfl, rfl, rfl, by decide +kernel, rfl, by decide +kernel, by decide +kernel⟩
theorem ok_lleast0 {f : Addr} {fd : FuncData} (D : De K mg "_law_least" sLeast ["_law_size", "_law_wishes_here", "_law_places"] f fd) : FnOk P w K mg base CX0 1 f fd ["_law_size", "_law_wishes_here", "_law_places"] (spLeast K 0) := by
  refine D.F.ok sc_lleast (fun vs H Q E h => ?_) (fun cdv A outer s H vs Q E hr h => ?_)
  · obtain ⟨n, a, b, ws, ps, rfl, _⟩ := h
    rfl
  · obtain ⟨n, a, b, ws, ps, rfl, _, _, _, h, _⟩ := h
    exact absurd h (Nat.not_lt_zero _)
theorem but_take {ps : List Int} {p : Int} {j : Nat} (hj : j < ps.length) : but (ps.take (j + 1)) p = but (ps.take j) p ++ (if at0 ps j = p then [] else [at0 ps j]) := by
  unfold but
  rw [List.take_add_one, at0_get hj, List.filter_append]
  congr 1
  by_cases h : at0 ps j = p
  · rw [if_pos h]
    simp [h]
  · rw [if_neg h]
    simp [h]
theorem but_len (ps : List Int) (p : Int) : (but ps p).length ≤ ps.length := List.length_filter_le _ _
theorem ok_lleast1 {f : Addr} {fd : FuncData} {k d : Nat} (D : De K mg "_law_least" sLeast ["_law_size", "_law_wishes_here", "_law_places"] f fd) (X : Tx mg) (GX : FnOk P w K mg base CX0 k f fd ["_law_size", "_law_wishes_here", "_law_places"] (spLeast K d)) :
    FnOk P w K mg base CX0 (k + 1) f fd ["_law_size", "_law_wishes_here", "_law_places"] (spLeast K (d + 1)) := by
  refine D.F.ok sc_lleast (fun vs H Q E h => ?_) (fun cdv A outer s H vs Q E hr h => ?_)
  · obtain ⟨n, a, b, ws, ps, rfl, _⟩ := h
    rfl
  · obtain ⟨n, a, b, ws, ps, rfl, hn, hS, hB, hd, hl, hl2, q⟩ := h
    refine ⟨_, pss_cons (ps_if (pt_cmpR (op_eqD hr.units) (pv 1) (pe_tup pa_nil) (nomark _)) (pss_one (ps_ret pe_int)) pss_nil)
      (pss_cons (ps_set (i := 3) sc_lleast.nd rfl (.inl rfl) (pv 0))
      (pss_cons (ps_for PassesOwn.never rfl (pi_list (pv 2)) (pg_name (i := 4) sc_lleast.nd rfl (.inr rfl))
        (pss_cons (ps_setLc (i := 5) (own := [("_law_one", 6)]) (g := gName 6) rfl sc_lleast.nd rfl (by rfl) (by rfl) (pi_list (pv 2)) (blkOk_by (N := ["_law_size", "_law_wishes_here", "_law_places", "_law_found", "_law_place", "_law_rest", "_law_one"]) (sc := defScope sLeast) (by decide +kernel))
            (fun _ _ _ _ _ => pg_name (i := 6) sc_lleast.nd rfl (.inl rfl)) (fun _ _ _ _ _ => pts_one (pt_cmp (pc_neI (pv 6) (pv 4)))) (fun _ _ _ _ _ => pv 6))
        (pss_one (ps_set (i := 3) sc_lleast.nd rfl (.inl rfl) (pe_callB (call_min2 rfl) (by rfl) X.min (by decide +kernel) (pa_cons (pv 3) (pa_cons (pe_callB (call_max2 rfl) (by rfl) X.max (by decide +kernel)
          (pa_cons (pe_op op_mod (pe_op op_sub (pv 4) (pe_ix ix_tup (pv 1) pe_int (fun _ _ => rfl))) (pv 0)) (pa_cons (pe_call GX hr (by rfl) D.g D.F.kp D.b .nil pass0 (pa_cons (pv 0) (pa_cons (pe_slice sl_tupA (pv 1) (po_some pe_int) po_none) (pa_cons (pv 5) pa_nil)))) pa_nil))) pa_nil)))))))
      (pss_one (ps_ret (pv 3))))), ?_⟩
    refine ⟨.ref a, rfl, Nat.zero_le _, fun T nT => ?_⟩
    have s1 : Same H (upd H T (.tup [])) := same_upd nT
    refine ⟨.tuple (ws.map PyData.int), .tuple (([] : List Int).map PyData.int), .tup (sameT s1 hS) (dpAll_ints ws), .tup (.inl (.inl upd_same)) .nil, shaped_tup _, shaped_tup _, decide (ws = []), congrArg V.bl (eqv_tups ws []), ?_⟩
    cases ws with
    | nil =>
      rw [decide_eq_true (rfl : ([] : List Int) = [])]
      exact iteT (q _ s1)
    | cons w0 ws =>
      rw [decide_eq_false (fun z => nomatch z)]
      refine iteF ?_
      generalize hv : (fun f p => min2 f (max2 ((p - w0) % n) (least n ws (but ps p)))) = F
      have hF : ∀ f p, F f p = min2 f (max2 ((p - w0) % n) (least n ws (but ps p))) := fun f p => by rw [← hv]
      have hle : least n (w0 :: ws) ps = ps.foldl F n := by rw [← hv]; rfl
      refine ⟨.int n, rfl, .ref b, rfl, b, rfl, ⟨_, s1.seq hB⟩, for_list (K := K) (a := b) (xs := ps.map V.int) (fun i σ H1 => ∃ y4 y5, σ = [some (.int n), some (.ref a), some (.ref b), some (.int ((ps.take i).foldl F n)), y4, y5, none] ∧ Same H H1) ?_ ?_ ?_ ?_⟩
      · exact ⟨none, none, rfl, s1⟩
      · rintro i σ H1 _ ⟨_, _, _, sm⟩
        exact sm.seq hB
      · rintro i x σ H1 hx ⟨y4, y5, rfl, sm⟩
        obtain ⟨hi, rfl⟩ := get_ws hx
        refine ⟨.ref b, rfl, b, rfl, ⟨_, sm.seq hB⟩, fun D nD => lc_list (K := K) (a := b) (xs := ps.map V.int) (fun j H3 => Same H1 H3 ∧ H3 D = some (.lst ((but (ps.take j) (at0 ps i)).map V.int))) ⟨same_upd nD, upd_same⟩ (fun j H3 _ h3 => h3.1.seq (sm.seq hB)) ?_ ?_⟩
        · rintro j x H3 hxj ⟨sm3, hD⟩
          obtain ⟨hj, rfl⟩ := get_ws hxj
          refine ⟨rfl, .int (at0 ps j), rfl, .int (at0 ps i), rfl, at0 ps j, at0 ps i, rfl, rfl, !decide (at0 ps j = at0 ps i), rfl, ?_⟩
          rw [but_take hj]
          by_cases hz : at0 ps j = at0 ps i
          · rw [decide_eq_true hz, if_pos hz, List.append_nil]
            exact iteF ⟨sm3, hD⟩
          · rw [decide_eq_false hz, if_neg hz]
            refine iteT ⟨.int (at0 ps j), rfl, _, hD, ?_, fun y o e => ?_, ?_⟩
            · rw [List.length_map, sizeLine_eq]
              have := but_len (ps.take j) (at0 ps i)
              rw [List.length_take] at this
              omega
            · rw [upd_ne (ne_of_none e nD)]
              exact sm3 y o e
            · rw [upd_same, List.map_append]
              rfl
        · rintro H3 ⟨sm3, hD⟩
          rw [List.length_map, List.take_of_length_le (Nat.le_refl _)] at hD
          have sm4 := sm.trans sm3
          refine ⟨.int _, rfl, .int (at0 ps i), rfl, .ref a, rfl, a, _, 0, .int w0, rfl, rfl, sameT sm4 hS, at_int (l := w0 :: ws) (j := 0) (Nat.succ_pos _), at0 ps i, w0, rfl, rfl, .int n, rfl, at0 ps i - w0, n, rfl, rfl, hn, .int n, rfl, .ref a, rfl, 1, rfl, ?_⟩
          refine noPart ?_
          refine slI (xs := w0 :: ws) (sameT sm4 hS) fun H4 c s4 hc => ?_
          rw [cutI_tail] at hc
          have hl3 : ws.length + 1 ≤ 9 := hl
          have hd3 : ws.length + 1 < d + 1 := hd
          refine ⟨.ref D, rfl, n, c, D, ws, but ps (at0 ps i), rfl, hn, hc, s4.seq (SqL.of hD), by omega, by omega, Nat.le_trans (but_len _ _) hl2, fun H5 s5 => ?_⟩
          refine ⟨_, _, rfl, _, _, rfl, some (.int (at0 ps i)), some (.ref D), ?_, (sm4.trans s4).trans s5⟩
          rw [List.take_add_one, at0_get hi, List.foldl_append]
          show _ = [_, _, _, some (V.int (F _ _)), _, _, _]
          rw [hF]
          rfl
      · rintro σ H1 ⟨y4, y5, rfl, sm⟩
        rw [List.length_map, List.take_of_length_le (Nat.le_refl _)]
        refine ⟨_, rfl, ?_⟩
        rw [← hle]
        exact q _ sm
theorem ok_lleast {f : Addr} {fd : FuncData} (D : De K mg "_law_least" sLeast ["_law_size", "_law_wishes_here", "_law_places"] f fd) (X : Tx mg) : ∀ d, FnOk P w K mg base CX0 (d + 1) f fd ["_law_size", "_law_wishes_here", "_law_places"] (spLeast K d)
  | 0 => ok_lleast0 D
  | d + 1 => ok_lleast1 D X (ok_lleast D X d)
end
end K13
namespace K13
open PySem PySem.Spec PyProof.Rows L2
/-! ### a dict from cars to places -/
abbrev KvL := List (L2.Key × V)
abbrev ck (c : Nat) : L2.Key := Sum.inl (c : Int)
theorem ck_inj {c c' : Nat} (h : ck c = ck c') : c = c' := by
  have := Sum.inl.inj h
  omega
theorem valV_mem {kvs : KvL} {k : L2.Key} {v : V} (h : valV kvs k = some v) : (k, v) ∈ kvs := by
  unfold valV at h
  cases e : kvs.find? fun kv => decide (kv.1 = k) with
  | none => rw [e] at h; cases h
  | some kv =>
    rw [e] at h
    have h1 := List.find?_some e
    have h2 := List.mem_of_find?_eq_some e
    have h3 : kv.1 = k := of_decide_eq_true h1
    have h4 : kv.2 = v := Option.some.inj h
    rw [← h3, ← h4]
    exact h2
theorem putK_mem {kvs : KvL} {k x : L2.Key} {y v : V} (h : (x, v) ∈ putK kvs k y) : x = k ∨ ∃ v', (x, v') ∈ kvs := by
  unfold putK at h
  split at h
  · obtain ⟨kv, h1, h2⟩ := List.mem_map.mp h
    split at h2
    · have : kv.1 = x := congrArg Prod.fst h2
      exact .inr ⟨kv.2, by rw [← this]; exact h1⟩
    · exact .inr ⟨v, by rw [← h2]; exact h1⟩
  · rcases List.mem_append.mp h with h | h
    · exact .inr ⟨v, h⟩
    · rw [List.mem_singleton] at h
      exact .inl (congrArg Prod.fst h)
theorem mergeK_mem : ∀ {l acc : KvL} {x : L2.Key} {v : V}, (x, v) ∈ mergeK acc l → (∃ v', (x, v') ∈ acc) ∨ ∃ v', (x, v') ∈ l
  | [], acc, x, v, h => .inl ⟨v, h⟩
  | kv :: l, acc, x, v, h => by
    rcases mergeK_mem (l := l) (acc := putK acc kv.1 kv.2) h with ⟨v', h⟩ | ⟨v', h⟩
    · rcases putK_mem h with e | e
      · exact .inr ⟨kv.2, by rw [e]; exact List.mem_cons_self⟩
      · exact .inl e
    · exact .inr ⟨v', List.mem_cons_of_mem _ h⟩
theorem mergeK_val {k : L2.Key} {y : V} : ∀ {l acc : KvL}, (∀ v, (k, v) ∈ l → v = y) → (valV acc k = some y ∨ ∃ v, (k, v) ∈ l) → valV (mergeK acc l) k = some y
  | [], acc, _, h => by
    rcases h with h | ⟨v, h⟩
    · exact h
    · cases h
  | kv :: l, acc, ha, h => by
    refine mergeK_val (l := l) (acc := putK acc kv.1 kv.2) (fun v hv => ha v (List.mem_cons_of_mem _ hv)) ?_
    rw [valV_put]
    by_cases e : k = kv.1
    · refine .inl ?_
      rw [if_pos e, ha kv.2 (by rw [e]; exact List.mem_cons_self)]
    · rw [if_neg e]
      rcases h with h | ⟨v, h⟩
      · exact .inl h
      · rcases List.mem_cons.mp h with z | z
        · exact absurd (congrArg Prod.fst z) e
        · exact .inr ⟨v, z⟩
structure DRep (kvs : KvL) (S : Nat → Prop) (pl : Nat → Int) : Prop where
  key : ∀ x v, (x, v) ∈ kvs → ∃ c : Nat, x = ck c ∧ S c
  val : ∀ c, S c → valV kvs (ck c) = some (.int (pl c))
theorem DRep.congr {kvs : KvL} {S S' : Nat → Prop} {pl pl' : Nat → Int} (h : DRep kvs S pl) (hs : ∀ c, S' c ↔ S c) (hp : ∀ c, S c → pl' c = pl c) : DRep kvs S' pl' := by
  refine ⟨fun x v hx => ?_, fun c hc => ?_⟩
  · obtain ⟨c, e, s⟩ := h.key x v hx
    exact ⟨c, e, (hs c).mpr s⟩
  · have s := (hs c).mp hc
    rw [hp c s]
    exact h.val c s
theorem DRep.put {kvs : KvL} {S : Nat → Prop} {pl : Nat → Int} (h : DRep kvs S pl) (c : Nat) : DRep (putK kvs (ck c) (.int (pl c))) (fun c' => S c' ∨ c' = c) pl := by
  refine ⟨fun x v hx => ?_, fun c' hc => ?_⟩
  · rcases putK_mem hx with e | ⟨v', e⟩
    · exact ⟨c, e, .inr rfl⟩
    · obtain ⟨c', e, s⟩ := h.key x v' e
      exact ⟨c', e, .inl s⟩
  · rw [valV_put]
    by_cases e : c' = c
    · subst e
      rw [if_pos rfl]
    · rw [if_neg fun z => e (ck_inj z)]
      rcases hc with z | z
      · exact h.val c' z
      · exact absurd z e
theorem DRep.merge {kvs kw : KvL} {S : Nat → Prop} {pl : Nat → Int} {o : Nat} (h : DRep kvs S pl) (h1 : ∀ x v, (x, v) ∈ kw → (∃ v', (x, v') ∈ kvs) ∧ x ≠ ck o ∧ valV kvs x = some v) (h2 : ∀ x v, (x, v) ∈ kvs → x ≠ ck o → ∃ v', (x, v') ∈ kw) :
    DRep (mergeK [] kw) (fun c => S c ∧ c ≠ o) pl := by
  refine ⟨fun x v hx => ?_, fun c hc => ?_⟩
  · rcases mergeK_mem hx with ⟨_, z⟩ | ⟨v', z⟩
    · cases z
    · obtain ⟨⟨v2, a⟩, b, _⟩ := h1 x v' z
      obtain ⟨c, e, s⟩ := h.key x v2 a
      exact ⟨c, e, s, fun z => b (by rw [e, z])⟩
  · have hv := h.val c hc.1
    refine mergeK_val (fun v hx => ?_) (.inr (h2 _ _ (valV_mem hv) fun z => hc.2 (ck_inj z)))
    obtain ⟨_, _, e⟩ := h1 _ v hx
    rw [hv] at e
    exact (Option.some.inj e).symm
theorem in_bls (l : List Bool) : inV (.bl true) (l.map V.bl) = l.any fun b => b := by
  unfold inV
  rw [List.any_map]
  refine congrArg (fun f => l.any f) (funext fun b => ?_)
  cases b <;> rfl
theorem flat_bls (l : List Bool) : (l.map V.bl).all flatV = true := by
  rw [List.all_eq_true]
  intro x hx
  obtain ⟨i, _, rfl⟩ := List.mem_map.mp hx
  rfl
theorem rep_flat : ∀ m : Nat, (List.replicate m [V.int 0]).flatten = (List.replicate m (0 : Int)).map V.int
  | 0 => rfl
  | m + 1 => by
    rw [List.replicate_succ, List.replicate_succ, List.flatten_cons, rep_flat m]
    rfl
theorem lock_same {H H3 : Hp} {d : Addr} {u : HO} {od : Obj} (h : H d = some u) (e : Same (upd H d (.frz od u)) H3) : Same H (upd H3 d u) := fun b o hb => by
  by_cases z : b = d
  · subst z
    rw [upd_same]
    rw [h] at hb
    exact hb
  · rw [upd_ne z]
    refine e b o ?_
    rw [upd_ne z]
    exact hb
theorem frz_at {H H3 : Hp} {d b : Addr} {u o : HO} {od : Obj} (e : Same (upd H d (.frz od u)) H3) (hb : H b = some o) (n : b ≠ d) : H3 b = some o := e b o (by rw [upd_ne n]; exact hb)
section
variable {K : PySem.W.Frag} {n : Int} {a d g : Addr} {bl : Bool} {i c : Nat} {y7 y8 : Option V} {H : Hp} {ws gg : List Int} {kvs : KvL}
def pl (n : Int) (ws gg : List Int) (c : Nat) : Int := (at0 ws c + at0 gg c) % n
def hitK (n : Int) (ws gg : List Int) (p : Int) : L2.Key → Bool
  | .inl z => decide (pl n ws gg z.toNat = p)
  | .inr _ => false
theorem hit_ck {n : Int} {ws gg : List Int} {p : Int} (c : Nat) : hitK n ws gg p (ck c) = decide (pl n ws gg c = p) := rfl
/-- tuples stand under a lock as they stood -/
theorem sqT_frz {H H3 : Hp} {xs : List V} {u : HO} {od : Obj} (e : Same (upd H d (.frz od u)) H3) (hd : H d = some u) (hu : Mut (some u)) (h : SqT K H a xs) : SqT K H3 a xs := by
  rcases h with (h | ⟨o, h⟩) | h
  · exact .inl (.inl (frz_at e h fun z => by rw [z, hd] at h; cases h; exact hu))
  · exact .inl (.inr ⟨o, frz_at e h fun z => by rw [z, hd] at h; cases h; exact hu⟩)
  · exact .inr h
/-- True in [place_of[other] == (wishes[car] + steps[car]) % size for other in place_of if other != car] -/
theorem rd_cond (hn : 0 < n) (hS : SqT K H a (ws.map V.int)) (hg : H g = some (.lst (gg.map V.int))) (hd : H d = some (.dK kvs)) (hc : c < ws.length) (hcg : c < gg.length) (hk : kvs.length ≤ 1000) (hr : DRep kvs (fun c' => c' < i + 1 ∧ c' ≠ c) (pl n ws gg)) {Q : VK}
    (q : ∀ H', Same H H' → Q (.bl (kvs.any fun kv => hitK n ws gg (pl n ws gg c) kv.1)) H') :
    tOp (rIn K false) (tC (.bl true)) (tLockE (tLc (iKeys (tVar 3)) (gName 7) (tB (tNeI (tVar 7) (tVar 6))) (tEqI (tDGet (tVar 3) (tVar 7)) (tOp (rI (fun _ j => 0 < j) fun i j => .int (i % j)) (tOp (rI0 fun i j => .int (i + j)) (tOp (rIxT K) (tVar 1) (tVar 6)) (tOp (rIxL K) (tVar 4) (tVar 6))) (tVar 0))) [7]))
      [some (.int n), some (.ref a), some (.bl bl), some (.ref d), some (.ref g), some (.int (i : Int)), some (.int (c : Int)), y7, y8, none] H Q := by
  have ngd : g ≠ d := fun e => by rw [e, hd] at hg; cases hg
  refine ⟨d, .dK kvs, hd, trivial, fun od => ⟨.ref d, rfl, d, od, rfl, .inl ⟨kvs, upd_same, fun D nD => lc_it walk_keys (fun j H3 => Same (upd H d (.frz od (.dK kvs))) H3 ∧ H3 D = some (.lst (((kvs.take j).map fun kv => hitK n ws gg (pl n ws gg c) kv.1).map V.bl))) ?_ ?_ ?_ ?_⟩⟩⟩
  · exact ⟨same_upd nD, upd_same⟩
  · rintro j H3 _ ⟨e, _⟩
    exact e d _ upd_same
  · rintro j x H3 H4 hj ⟨e, hD⟩ ⟨rfl, k, v, hkv, rfl⟩
    obtain ⟨c', rfl, s1, s2⟩ := hr.key k v (List.mem_of_getElem? hkv)
    have hv := hr.val c' ⟨s1, s2⟩
    refine ⟨rfl, .int (c' : Int), rfl, .int (c : Int), rfl, (c' : Int), (c : Int), rfl, rfl, true, congrArg (fun z => V.bl (!z)) (decide_eq_false fun z => s2 (by omega)), iteT ?_⟩
    refine ⟨.ref d, rfl, .int (c' : Int), rfl, d, .int (pl n ws gg c'), rfl, .inl ⟨kvs, ck c', .inr ⟨od, e d _ upd_same⟩, rfl, hv.symm⟩, ?_⟩
    refine ⟨.ref a, rfl, .int (c : Int), rfl, a, _, c, .int (at0 ws c), rfl, rfl, sqT_frz e hd trivial hS, at_int hc, .ref g, rfl, .int (c : Int), rfl, g, _, c, .int (at0 gg c), rfl, rfl, SqL.of (frz_at e hg ngd), at_int hcg, _, _, rfl, rfl, .int n, rfl, _, n, rfl, rfl, hn, pl n ws gg c', pl n ws gg c, rfl, rfl, _, hD, ?_, fun b o hb => ?_, ?_⟩
    · rw [List.length_map, List.length_map, List.length_take, sizeLine_eq]
      omega
    · rw [upd_ne (ne_of_none hb nD)]
      exact e b o hb
    · rw [upd_same, List.take_add_one, hkv, List.map_append, List.map_append]
      rfl
  · rintro H3 ⟨e, hD⟩
    rw [List.take_of_length_le (Nat.le_refl _)] at hD
    have nDd : D ≠ d := fun z => by rw [z, upd_same] at nD; cases nD
    refine ⟨e d _ upd_same, D, _, rfl, .inl (SqL.of (by rw [upd_ne nDd]; exact hD)), rfl, flat_bls _, ?_⟩
    have := q _ (lock_same hd e)
    rw [show (kvs.any fun kv => hitK n ws gg (pl n ws gg c) kv.1) = inV (.bl true) ((kvs.map fun kv => hitK n ws gg (pl n ws gg c) kv.1).map V.bl) by rw [in_bls, List.any_map]; rfl] at this
    exact this
end
end K13
namespace K13
open PySem PySem.Spec PyProof.Rows L2
section
variable {K : PySem.W.Frag} {n p : Int} {a d g : Addr} {bl : Bool} {i c o : Nat} {y7 y8 : Option V} {H : Hp} {ws gg : List Int} {kvs : KvL}
/-- [one for one in place_of if one != car and place_of[one] == here][0] -/
theorem rd_other (hd : H d = some (.dK kvs)) (hk : kvs.length ≤ 1000) (hr : DRep kvs (fun c' => c' < i + 1 ∧ c' ≠ c) (pl n ws gg)) (ho : o < i + 1 ∧ o ≠ c) (hp : pl n ws gg o = p) (hu : ∀ c', c' < i + 1 ∧ c' ≠ c → pl n ws gg c' = p → c' = o) {Q : VK}
    (q : ∀ H', Same H H' → Q (.int (o : Int)) H') :
    tOp (rIxL K) (tLockE (tLc (iKeys (tVar 3)) (gName 9) (tAnd (tB (tNeI (tVar 9) (tVar 6))) (tB (tEqI (tDGet (tVar 3) (tVar 9)) (tVar 8)))) (tVar 9) [9])) (tC (.int 0))
      [some (.int n), some (.ref a), some (.bl bl), some (.ref d), some (.ref g), some (.int (i : Int)), some (.int (c : Int)), y7, some (.int p), none] H Q := by
  refine ⟨d, .dK kvs, hd, trivial, fun od => ⟨.ref d, rfl, d, od, rfl, .inl ⟨kvs, upd_same, fun D nD => lc_it walk_keys (fun j H3 => Same (upd H d (.frz od (.dK kvs))) H3 ∧ ∃ l : List Nat, H3 D = some (.lst (l.map fun c : Nat => V.int (c : Int))) ∧ l.length ≤ j ∧ (∀ c' ∈ l, c' = o) ∧
    ((∃ (j' : Nat) (v : V), j' < j ∧ kvs[j']? = some (ck o, v)) → l ≠ [])) ?_ ?_ ?_ ?_⟩⟩⟩
  · exact ⟨same_upd nD, [], upd_same, Nat.le_refl _, fun c' h => (nomatch h), fun ⟨j', v, h, _⟩ => absurd h (Nat.not_lt_zero _)⟩
  · rintro j H3 _ ⟨e, _⟩
    exact e d _ upd_same
  · rintro j x H3 H4 hj ⟨e, l, hD, hl, hall, hne⟩ ⟨rfl, k, v, hkv, rfl⟩
    obtain ⟨c', rfl, s1, s2⟩ := hr.key k v (List.mem_of_getElem? hkv)
    have hv := hr.val c' ⟨s1, s2⟩
    refine ⟨rfl, .int (c' : Int), rfl, .int (c : Int), rfl, (c' : Int), (c : Int), rfl, rfl, true, congrArg (fun z => V.bl (!z)) (decide_eq_false fun z => s2 (by omega)), iteT ?_⟩
    refine ⟨.ref d, rfl, .int (c' : Int), rfl, d, .int (pl n ws gg c'), rfl, .inl ⟨kvs, ck c', .inr ⟨od, e d _ upd_same⟩, rfl, hv.symm⟩, .int p, rfl, pl n ws gg c', p, rfl, rfl, decide (pl n ws gg c' = p), rfl, ?_⟩
    by_cases hz : pl n ws gg c' = p
    · rw [decide_eq_true hz]
      have hco := hu c' ⟨s1, s2⟩ hz
      refine iteT ⟨.int (c' : Int), rfl, _, hD, ?_, fun b ob hb => ?_, l ++ [c'], ?_, ?_, fun c'' h => ?_, fun _ z => ?_⟩
      · rw [List.length_map, sizeLine_eq]
        omega
      · rw [upd_ne (ne_of_none hb nD)]
        exact e b ob hb
      · rw [upd_same, List.map_append]
        rfl
      · rw [List.length_append]
        show l.length + 1 ≤ j + 1
        omega
      · rcases List.mem_append.mp h with z | z
        · exact hall c'' z
        · rw [List.mem_singleton] at z
          rw [z]
          exact hco
      · exact absurd (List.append_eq_nil_iff.mp z).2 (by simp)
    · rw [decide_eq_false hz]
      refine iteF ⟨e, l, hD, Nat.le_succ_of_le hl, hall, fun ⟨j', v', h1, h2⟩ => ?_⟩
      rcases Nat.lt_succ_iff_lt_or_eq.mp h1 with h1 | h1
      · exact hne ⟨j', v', h1, h2⟩
      · rw [h1, hkv] at h2
        have : ck c' = ck o := congrArg Prod.fst (Option.some.inj h2)
        rw [ck_inj this] at hz
        exact absurd hp hz
  · rintro H3 ⟨e, l, hD, hl, hall, hne⟩
    have nDd : D ≠ d := fun z => by rw [z, upd_same] at nD; cases nD
    have hl0 : l ≠ [] := by
      obtain ⟨j', hj'⟩ := List.mem_iff_getElem?.mp (valV_mem (hr.val o ho))
      exact hne ⟨j', _, (List.getElem?_eq_some_iff.mp hj').1, hj'⟩
    cases l with
    | nil => exact absurd rfl hl0
    | cons c0 l =>
      have e0 := hall c0 List.mem_cons_self
      refine ⟨e d _ upd_same, D, _, 0, .int (o : Int), rfl, rfl, SqL.of (by rw [upd_ne nDd]; exact hD), ?_, q _ (lock_same hd e)⟩
      rw [e0]
      exact atI_nat (j := 0) rfl
/-- is_last or steps[car] > steps[other] -/
def st (bl : Bool) : Int → Int → Bool := if bl = true then lastS else farS
theorem rd_test {y : Option V} {s : Bool} (hg : H g = some (.lst (gg.map V.int))) (hcg : c < gg.length) (hog : o < gg.length) (hs : st bl (at0 gg o) (at0 gg c) = s) {Q : Bool → Hp → Prop} (q : Q (!s) H) :
    tOr (tB (tVar 2)) (tB (tGt (tOp (rIxL K) (tVar 4) (tVar 6)) (tOp (rIxL K) (tVar 4) (tVar 7))))
      [some (.int n), some (.ref a), some (.bl bl), some (.ref d), some (.ref g), some (.int (i : Int)), some (.int (c : Int)), some (.int (o : Int)), y, none] H Q := by
  cases bl with
  | true =>
    have : s = false := by rw [← hs]; rfl
    subst this
    exact ⟨.bl true, rfl, true, rfl, iteT q⟩
  | false =>
    refine ⟨.bl false, rfl, false, rfl, iteF ⟨.ref g, rfl, .int (c : Int), rfl, g, _, c, .int (at0 gg c), rfl, rfl, SqL.of hg, at_int hcg, .ref g, rfl, .int (o : Int), rfl, g, _, o, .int (at0 gg o), rfl, rfl, SqL.of hg, at_int hog, at0 gg c, at0 gg o, rfl, rfl, !s, ?_, q⟩⟩
    have e : decide (at0 gg o < at0 gg c) = !s := by
      rw [← hs]
      show _ = !decide (at0 gg c ≤ at0 gg o)
      by_cases h : at0 gg c ≤ at0 gg o
      · rw [decide_eq_true h]
        exact decide_eq_false (by omega)
      · rw [decide_eq_false h]
        exact decide_eq_true (by omega)
    exact congrArg V.bl e
/-- [(one, place_of[one]) for one in place_of if one != other] -/
theorem rd_but {y : Option V} {S : Nat → Prop} {pp : Nat → Int} (hd : H d = some (.dK kvs)) (hk : kvs.length ≤ 1000) (hr : DRep kvs S pp) {Q : VK}
    (q : ∀ H' D (qs : List Addr) (kw : KvL), Same H H' → H' D = some (.lst (qs.map V.ref)) → Paired (fun q kv => SqT K H' q [kV kv.1, kv.2]) qs kw → kw.length ≤ kvs.length → DRep (mergeK [] kw) (fun c => S c ∧ c ≠ o) pp → Q (.ref D) H') :
    tLockE (tLc (iKeys (tVar 3)) (gName 9) (tB (tNeI (tVar 9) (tVar 7))) (tTup (tCons (tVar 9) (tCons (tDGet (tVar 3) (tVar 9)) tNil))) [9])
      [some (.int n), some (.ref a), some (.bl bl), some (.ref d), some (.ref g), some (.int (i : Int)), some (.int (c : Int)), some (.int (o : Int)), y, none] H Q := by
  refine ⟨d, .dK kvs, hd, trivial, fun od => ⟨.ref d, rfl, d, od, rfl, .inl ⟨kvs, upd_same, fun D nD => lc_it walk_keys (fun j H3 => Same (upd H d (.frz od (.dK kvs))) H3 ∧ ∃ (qs : List Addr) (kw : KvL), H3 D = some (.lst (qs.map V.ref)) ∧ Paired (fun q kv => H3 q = some (.tup [kV kv.1, kv.2])) qs kw ∧ qs.length ≤ j ∧ kw.length ≤ j ∧
    (∀ x v, (x, v) ∈ kw → (∃ v', (x, v') ∈ kvs) ∧ x ≠ ck o ∧ valV kvs x = some v) ∧ ∀ (j' : Nat) x v, j' < j → kvs[j']? = some (x, v) → x ≠ ck o → ∃ v', (x, v') ∈ kw) ?_ ?_ ?_ ?_⟩⟩⟩
  · exact ⟨same_upd nD, [], [], upd_same, .nil, Nat.le_refl _, Nat.le_refl _, fun x v h => (nomatch h), fun j' _ _ h => absurd h (Nat.not_lt_zero _)⟩
  · rintro j H3 _ ⟨e, _⟩
    exact e d _ upd_same
  · rintro j x H3 H4 hj ⟨e, qs, kw, hD, hP, hl, hl2, h1, h2⟩ ⟨rfl, k, v, hkv, rfl⟩
    obtain ⟨c', rfl, s1⟩ := hr.key k v (List.mem_of_getElem? hkv)
    have hv := hr.val c' s1
    refine ⟨rfl, .int (c' : Int), rfl, .int (o : Int), rfl, (c' : Int), (o : Int), rfl, rfl, !decide ((c' : Int) = (o : Int)), rfl, ?_⟩
    by_cases hz : (c' : Int) = (o : Int)
    · rw [decide_eq_true hz]
      refine iteF ⟨e, qs, kw, hD, hP, Nat.le_succ_of_le hl, Nat.le_succ_of_le hl2, h1, fun j' x v' hj' hx hne => ?_⟩
      rcases Nat.lt_succ_iff_lt_or_eq.mp hj' with z | z
      · exact h2 j' x v' z hx hne
      · rw [z, hkv] at hx
        have : ck c' = x := congrArg Prod.fst (Option.some.inj hx)
        exact absurd (by rw [← this]; exact congrArg Sum.inl hz) hne
    · rw [decide_eq_false hz]
      refine iteT ⟨.int (c' : Int), rfl, .ref d, rfl, .int (c' : Int), rfl, d, .int (pp c'), rfl, .inl ⟨kvs, ck c', .inr ⟨od, e d _ upd_same⟩, rfl, hv.symm⟩, by show 2 ≤ sizeLine; rw [sizeLine_eq]; decide, fun T nT => ?_⟩
      have nTD : D ≠ T := fun z => by rw [z, nT] at hD; cases hD
      refine ⟨qs.map V.ref, by rw [upd_ne nTD]; exact hD, ?_, fun b ob hb => ?_, qs ++ [T], kw ++ [(ck c', .int (pp c'))], ?_, ?_, ?_, ?_, fun x v' hx => ?_, fun j' x v' hj' hx hne => ?_⟩
      · rw [List.length_map, sizeLine_eq]
        omega
      · rw [upd_ne (ne_of_none hb nD)]
        exact same_upd nT b ob (e b ob hb)
      · rw [upd_same, List.map_append]
        rfl
      · refine Paired.snoc (L2.Paired.mapP hP fun q' kv hq => ?_) ?_
        · rw [upd_ne (fun z => ?_)]
          · exact same_upd nT q' _ hq
          · rw [z, hD] at hq
            cases hq
        · rw [upd_ne (Ne.symm nTD), upd_same]
          rfl
      · rw [List.length_append]
        show qs.length + 1 ≤ j + 1
        omega
      · rw [List.length_append]
        show kw.length + 1 ≤ j + 1
        omega
      · rcases List.mem_append.mp hx with z | z
        · exact h1 x v' z
        · rw [List.mem_singleton] at z
          cases z
          exact ⟨⟨v, List.mem_of_getElem? hkv⟩, fun z => hz (Sum.inl.inj z), hv⟩
      · rcases Nat.lt_succ_iff_lt_or_eq.mp hj' with z | z
        · obtain ⟨v2, hv2⟩ := h2 j' x v' z hx hne
          exact ⟨v2, List.mem_append_left _ hv2⟩
        · rw [z, hkv] at hx
          have : ck c' = x := congrArg Prod.fst (Option.some.inj hx)
          exact ⟨_, List.mem_append_right _ (by rw [← this]; exact List.mem_singleton.mpr rfl)⟩
  · rintro H3 ⟨e, qs, kw, hD, hP, hl, hl2, h1, h2⟩
    have nDd : D ≠ d := fun z => by rw [z, upd_same] at nD; cases nD
    refine ⟨e d _ upd_same, q _ D qs kw (lock_same hd e) (by rw [upd_ne nDd]; exact hD) (L2.Paired.mapP hP fun q' kv hq => ?_) hl2 (hr.merge h1 fun x v hx hne => ?_)⟩
    · refine .inl (.inl ?_)
      rw [upd_ne (fun z => ?_)]
      · exact hq
      · have := e d _ upd_same
        rw [z, this] at hq
        cases hq
    · obtain ⟨j', hj'⟩ := List.mem_iff_getElem?.mp hx
      exact h2 j' x v (List.getElem?_eq_some_iff.mp hj').1 hj' hne
end
end K13
namespace K13
open PySem PySem.Spec PyProof.Rows L2
section
variable {P : Program} {w : World} {K : PySem.W.Frag} {mg : Str → Option Value} {base : Heap}
abbrev nSet : List Str := ["_law_size", "_law_wishes_here", "_law_is_last", "_law_place_of", "_law_steps", "_law_k", "_law_car", "_law_other", "_law_here", "_law_one"]
def spLSettled (K : PySem.W.Frag) : Sp := fun vs H Q _ => ∃ (n : Int) (a : Addr) (ws : List Int) (bl : Bool), vs = [.int n, .ref a, .bl bl] ∧ 0 < n ∧ n ≤ 9 ∧ SqT K H a (ws.map V.int) ∧ (ws.length : Int) ≤ n ∧ WsOk n ws ∧
  ∀ H' p, Same H H' → H' p = some (.tup ((res (st bl) n ws).map V.int)) → Q (.ref p) H'
theorem sc_lsettled : FnScope nSet ["_law_size", "_law_wishes_here", "_law_is_last"] (defScope sLSettled) := ⟨rfl, rfl, rfl, by decide +kernel, rfl, by decide +kernel, by decide +kernel⟩
theorem ok_lsettled {f : Addr} {fd : FuncData} (D : De K mg "_law_settled" sLSettled ["_law_size", "_law_wishes_here", "_law_is_last"] f fd) (X : Tx mg) : FnOk P w K mg base CX0 1 f fd ["_law_size", "_law_wishes_here", "_law_is_last"] (spLSettled K) := by
  refine D.F.ok sc_lsettled (fun vs H Q E h => ?_) (fun cdv A outer s H vs Q E hr h => ?_)
  · obtain ⟨n, a, ws, bl, rfl, _⟩ := h
    rfl
  · obtain ⟨n, a, ws, bl, rfl, hn, hn9, hS, hl, hw, q⟩ := h
    have hu := hu_of hr
    refine ⟨_, pss_cons (ps_asg (pe_tup (pa_cons pe_dnewK (pa_cons (pe_op op_rep (pe_lst (pa_cons pe_int pa_nil)) (pe_callB call_len (by rfl) X.len (by decide +kernel) (pa_cons (pv 1) pa_nil))) pa_nil)))
        (pg_tup rfl (pgs_cons (pg_name (i := 3) sc_lsettled.nd rfl (.inr rfl)) (pgs_cons (pg_name (i := 4) sc_lsettled.nd rfl (.inr rfl)) pgs_nil))))
      (pss_cons (ps_for PassesOwn.never rfl (pi_range1 (by rfl) X.range (pa_cons (pe_callB call_len (by rfl) X.len (by decide +kernel) (pa_cons (pv 1) pa_nil)) pa_nil)) (pg_name (i := 5) sc_lsettled.nd rfl (.inl rfl))
        (pss_cons (ps_set (i := 6) sc_lsettled.nd rfl (.inr rfl) (pv 5))
        (pss_cons (ps_while PassesOwn.never (pt_cmpR op_in_seq pe_bl (pe_lock (pe_lc (own := [("_law_other", 7)]) (g := gName 7) rfl sc_lsettled.nd (pi_keys (pv 3)) (blkOk_by (N := nSet) (sc := defScope sLSettled) (by decide +kernel))
              (fun _ _ _ _ _ => pg_name (i := 7) sc_lsettled.nd rfl (.inl rfl)) (fun _ _ _ _ _ => pts_one (pt_cmp (pc_neI (pv 7) (pv 6))))
              (fun _ _ _ _ _ => pe_cmp (pc_eqI (pe_dget hu (pv 3) (pv 7) (fun _ _ => rfl)) (pe_op op_mod (pe_op op_add (pe_ix (r := rIxT K) ix_tup (pv 1) (pv 6) (fun _ _ => rfl)) (pe_ix (r := rIxL K) ix_list (pv 4) (pv 6) (fun _ _ => rfl))) (pv 0)))))) rfl)
          (pss_cons (ps_set (i := 8) sc_lsettled.nd rfl (.inr rfl) (pe_op op_mod (pe_op op_add (pe_ix ix_tup (pv 1) (pv 6) (fun _ _ => rfl)) (pe_ix ix_list (pv 4) (pv 6) (fun _ _ => rfl))) (pv 0)))
          (pss_cons (ps_set (i := 7) sc_lsettled.nd rfl (.inr rfl) (pe_ix ix_list (pe_lock (pe_lc (own := [("_law_one", 9)]) (g := gName 9) rfl sc_lsettled.nd (pi_keys (pv 3)) (blkOk_by (N := nSet) (sc := defScope sLSettled) (by decide +kernel))
              (fun _ _ _ _ _ => pg_name (i := 9) sc_lsettled.nd rfl (.inl rfl)) (fun _ _ _ _ _ => pts_one (PW.pt (pw_and (pt_cmp (pc_neI (pv 9) (pv 6))) (pw_and1 (pt_cmp (pc_eqI (pe_dget hu (pv 3) (pv 9) (fun _ _ => rfl)) (pv 8)))))))
              (fun _ _ _ _ _ => pv 9))) pe_int (fun _ _ => rfl)))
          (pss_cons (ps_if (PW.pt (pw_or (pt_val (pv 2)) (pw_or1 (pt_cmp (pc_gt (pe_ix ix_list (pv 4) (pv 6) (fun _ _ => rfl)) (pe_ix ix_list (pv 4) (pv 7) (fun _ _ => rfl)))))))
            (pss_cons (ps_dput hu (pv 3) (pv 6) (pv 8) rfl)
            (pss_cons (ps_set (i := 3) sc_lsettled.nd rfl (.inr rfl) (pe_callTy (call_dictP rfl) (by rfl) X.dict (by decide +kernel) (pa_cons (pe_lock (pe_lc (own := [("_law_one", 9)]) (g := gName 9) rfl sc_lsettled.nd (pi_keys (pv 3)) (blkOk_by (N := nSet) (sc := defScope sLSettled) (by decide +kernel))
              (fun _ _ _ _ _ => pg_name (i := 9) sc_lsettled.nd rfl (.inl rfl)) (fun _ _ _ _ _ => pts_one (pt_cmp (pc_neI (pv 9) (pv 7))))
              (fun _ _ _ _ _ => pe_tup (pa_cons (pv 9) (pa_cons (pe_dget hu (pv 3) (pv 9) (fun _ _ => rfl)) pa_nil))))) pa_nil)))
            (pss_one (ps_set (i := 6) sc_lsettled.nd rfl (.inr rfl) (pv 7))))) pss_nil)
          (pss_one (ps_asg (pe_op op_add (pe_ix ix_list (pv 4) (pv 6) (fun _ _ => rfl)) pe_int) (pg_sub (pv 4) (pv 6) set_list)))))))
        (pss_one (ps_dput hu (pv 3) (pv 6) (pe_op op_mod (pe_op op_add (pe_ix ix_tup (pv 1) (pv 6) (fun _ _ => rfl)) (pe_ix ix_list (pv 4) (pv 6) (fun _ _ => rfl))) (pv 0)) rfl)))))
      (pss_one (ps_ret (pe_callTy call_tuple_of (by rfl) X.tuple (by decide +kernel) (pa_cons (pe_lc (own := [("_law_k", 5)]) (g := gName 5) (tt := tYes) rfl sc_lsettled.nd (pi_range1 (by rfl) X.range (pa_cons (pe_callB call_len (by rfl) X.len (by decide +kernel) (pa_cons (pv 1) pa_nil)) pa_nil)) (blkOk_by (N := nSet) (sc := defScope sLSettled) (by decide +kernel))
          (fun _ _ _ _ _ => pg_name (i := 5) sc_lsettled.nd rfl (.inl rfl)) (fun _ _ _ _ _ => pts_nil) (fun _ _ _ _ _ => pe_dget hu (pv 3) (pv 5) (fun _ _ => rfl))) pa_nil))))), ?_⟩
    -- {}, [0] * len(wishes)
    refine fun d nd => ⟨by show 1 ≤ sizeLine; rw [sizeLine_eq]; decide, fun l0 nl0 => ⟨.ref a, rfl, .ref a, _, rfl, .inr ⟨_, sameT (same_upd nl0) (sameT (same_upd nd) hS), rfl⟩, l0, _, _, rfl, rfl, upd_same, by rw [List.length_map]; omega, by rw [List.length_map]; omega, ?_, fun g ng => ?_⟩⟩
    · rw [List.length_map, sizeLine_eq]
      show 1 * _ ≤ _
      omega
    refine ⟨by show 2 ≤ sizeLine; rw [sizeLine_eq]; decide, fun T nT => ?_⟩
    refine ⟨T, _, rfl, .inl (.inl upd_same), rfl, _, _, rfl, _, _, rfl, rfl, ?_⟩
    have nl0d : l0 ≠ d := fun e => by rw [e, upd_same] at nl0; cases nl0
    have ngl : g ≠ l0 := fun e => by rw [e, upd_same] at ng; cases ng
    have ng1 : (upd H d (.dK [])) g = none := by rw [upd_ne ngl] at ng; exact ng
    have ngd : g ≠ d := fun e => by rw [e, upd_same] at ng1; cases ng1
    have ngH : H g = none := by rw [upd_ne ngd] at ng1; exact ng1
    have hN : (((ws.map V.int).length : Nat) : Int).toNat = ws.length := by rw [List.length_map, Int.toNat_natCast]
    rw [hN, rep_flat] at nT
    rw [hN, rep_flat]
    have sm0 : Same H (upd (upd (upd (upd H d (.dK [])) l0 (.lst [V.int 0])) g (.lst ((List.replicate ws.length (0 : Int)).map V.int))) T (.tup [V.ref d, V.ref g])) := ((same_upd nd).trans (same_upd nl0)).trans ((same_upd ng).trans (same_upd nT))
    have hg0 : (upd (upd (upd (upd H d (.dK [])) l0 (.lst [V.int 0])) g (.lst ((List.replicate ws.length (0 : Int)).map V.int))) T (.tup [V.ref d, V.ref g])) g = some (.lst ((List.replicate ws.length (0 : Int)).map V.int)) := same_upd nT _ _ upd_same
    have hd0 : (upd (upd (upd (upd H d (.dK [])) l0 (.lst [V.int 0])) g (.lst ((List.replicate ws.length (0 : Int)).map V.int))) T (.tup [V.ref d, V.ref g])) d = some (.dK []) := same_upd nT _ _ (by rw [upd_ne ngd.symm, upd_ne nl0d.symm, upd_same])
    -- for k in range(len(wishes))
    refine ⟨.ref a, rfl, .ref a, _, rfl, .inr ⟨_, sameT sm0 hS, rfl⟩, _, rfl, by rw [List.length_map]; omega, by rw [List.length_map]; omega, for_range (fun i σ H1 => ∃ d y5 y6 y7 y8, σ = [some (.int n), some (.ref a), some (.bl bl), some (.ref d), some (.ref g), y5, y6, y7, y8, none] ∧ Same H H1 ∧ H d = none ∧
      H1 g = some (.lst ((stt (st bl) n ws i).2.map V.int)) ∧ ∃ kvs : KvL, H1 d = some (.dK kvs) ∧ kvs.length ≤ 10 * i ∧ DRep kvs (fun c => c < i) (pl n ws (stt (st bl) n ws i).2)) ?_ ?_ ?_⟩
    · exact ⟨d, none, none, none, none, rfl, sm0, nd, hg0, [], hd0, Nat.zero_le _, ⟨fun x v h => (nomatch h), fun c h => absurd h (Nat.not_lt_zero _)⟩⟩
    · rintro i σ H1 hi ⟨d, y5, y6, y7, y8, rfl, sm1, nd, hg1, kvs, hd1, hk1, hr1⟩
      rw [hN] at hi
      rw [Int.zero_add]
      have KN := know (stay := st bl) hn hw hl i (by omega)
      have F := KN.fr hn hw hi hl
      have W0 := KN.wf.enter hw hi
      have p0 : at0 ws i = pl n ws (stt (st bl) n ws i).2 i := W0.pl
      -- car = k
      refine ⟨.int (i : Int), rfl, ?_⟩
      refine ⟨fun m σ' H' => ∃ (mm : Int → Option Nat) (gg : List Int) (c : Nat) (d : Addr) (kvs : KvL) (y7 y8 : Option V), σ' = [some (.int n), some (.ref a), some (.bl bl), some (.ref d), some (.ref g), some (.int (i : Int)), some (.int (c : Int)), y7, y8, none] ∧ Same H H' ∧ H d = none ∧
        H' g = some (.lst (gg.map V.int)) ∧ H' d = some (.dK kvs) ∧ kvs.length + m ≤ 10 * i + 9 ∧ DRep kvs (fun c' => c' < i + 1 ∧ c' ≠ c) (pl n ws gg) ∧ go (st bl) n m mm gg c (pl n ws gg c) = stt (st bl) n ws (i + 1) ∧ Fr n m mm (pl n ws gg c) ∧ Wa n ws i mm gg c (pl n ws gg c), ⟨n.toNat, ?_⟩, ?_⟩
      · refine ⟨(stt (st bl) n ws i).1, (stt (st bl) n ws i).2, i, d, kvs, y7, y8, rfl, sm1, nd, hg1, hd1, by omega, hr1.congr (fun c => by omega) (fun _ _ => rfl), ?_, ?_, ?_⟩
        · rw [← p0]
          rfl
        · rw [← p0]
          exact F
        · rw [← p0]
          exact W0
      rintro m σ' H' ⟨mm, gg, c, d, kvs, y7, y8, rfl, sm, nd, hg, hd, hkl, hrp, hgo, hf, wa⟩
      have hci : c < ws.length := by have := wa.ck; omega
      have hcg : c < gg.length := by rw [wa.len]; exact hci
      have hk : kvs.length ≤ 1000 := by omega
      refine rd_cond (i := i) (c := c) hn (sameT sm hS) hg hd hci hcg hk hrp fun H4 s4 => ⟨_, rfl, ?_⟩
      have sm4 := sm.trans s4
      have hg4 := s4 _ _ hg
      have hd4 := s4 _ _ hd
      cases hm : mm (pl n ws gg c) with
      | none =>
        have e : (kvs.any fun kv => hitK n ws gg (pl n ws gg c) kv.1) = false := by
          cases e : kvs.any fun kv => hitK n ws gg (pl n ws gg c) kv.1 with
          | false => rfl
          | true =>
            obtain ⟨kv, h1, h2⟩ := List.any_eq_true.mp e
            obtain ⟨c', e1, s1, s2⟩ := hrp.key kv.1 kv.2 h1
            rw [e1, hit_ck] at h2
            have h3 : pl n ws gg c' = pl n ws gg c := of_decide_eq_true h2
            have h4 := wa.all c' s1 s2
            rw [show (at0 ws c' + at0 gg c') % n = pl n ws gg c from h3, hm] at h4
            cases h4
        rw [e]
        refine iteF ?_
        rw [go_none hm] at hgo
        have e2 : gg = (stt (st bl) n ws (i + 1)).2 := by rw [← hgo]
        -- place_of[car] = ..
        refine ⟨.ref a, rfl, .int (c : Int), rfl, a, _, c, .int (at0 ws c), rfl, rfl, sameT sm4 hS, at_int hci, .ref g, rfl, .int (c : Int), rfl, g, _, c, .int (at0 gg c), rfl, rfl, SqL.of hg4, at_int hcg, _, _, rfl, rfl, .int n, rfl, _, n, rfl, rfl, hn, .ref d, rfl, .int (c : Int), rfl, d, _, rfl, DPut.k (k := ck c) hd4 (by rw [sizeLine_eq]; omega), ?_⟩
        refine ⟨d, _, _, _, _, rfl, fun b o hb => ?_, nd, ?_, putK kvs (ck c) (.int (pl n ws gg c)), upd_same, ?_, ?_⟩
        · rw [upd_ne (ne_of_none hb nd)]
          exact sm4 b o hb
        · rw [upd_ne (fun z => by rw [z, hd4] at hg4; cases hg4), ← e2]
          exact hg4
        · have := length_putK kvs (ck c) (.int (pl n ws gg c))
          omega
        · rw [← e2]
          have := wa.ck
          exact (hrp.put c).congr (fun c' => by omega) (fun _ _ => rfl)
      | some o =>
        obtain ⟨o1, o2, o3⟩ := wa.has _ _ hm
        have e : (kvs.any fun kv => hitK n ws gg (pl n ws gg c) kv.1) = true := by
          refine List.any_eq_true.mpr ⟨_, valV_mem (hrp.val o ⟨o1, o2⟩), ?_⟩
          show hitK n ws gg (pl n ws gg c) (ck o) = true
          rw [hit_ck]
          exact decide_eq_true o3.symm
        rw [e]
        refine iteT ?_
        have hoi : o < ws.length := by omega
        have hog : o < gg.length := by rw [wa.len]; exact hoi
        obtain ⟨m', rfl⟩ : ∃ m', m = m' + 1 := by
          cases m with
          | zero => exact absurd (show mm (pl n ws gg c) = none from hf) (by rw [hm]; simp)
          | succ m' => exact ⟨m', rfl⟩
        have hf' : Fr n m' mm ((pl n ws gg c + 1) % n) := by
          rcases hf with z | z
          · rw [hm] at z; cases z
          · exact z
        refine ⟨_, fun σ'' H'' hN => hN, ?_⟩
        -- here = ..
        refine ⟨.ref a, rfl, .int (c : Int), rfl, a, _, c, .int (at0 ws c), rfl, rfl, sameT sm4 hS, at_int hci, .ref g, rfl, .int (c : Int), rfl, g, _, c, .int (at0 gg c), rfl, rfl, SqL.of hg4, at_int hcg, _, _, rfl, rfl, .int n, rfl, _, n, rfl, rfl, hn, ?_⟩
        -- other = ..
        refine rd_other (i := i) (c := c) (o := o) (p := pl n ws gg c) hd4 hk hrp ⟨o1, o2⟩ o3.symm (fun c' hc' e' => ?_) fun H5 s5 => ?_
        · have h4 := wa.all c' hc'.1 hc'.2
          rw [show (at0 ws c' + at0 gg c') % n = pl n ws gg c from e', hm] at h4
          exact (Option.some.inj h4).symm
        have sm5 := sm4.trans s5
        have hg5 := s5 _ _ hg4
        have hd5 := s5 _ _ hd4
        have ngd : g ≠ d := fun z => by rw [z, hd] at hg; cases hg
        cases hs : st bl (at0 gg o) (at0 gg c) with
        | false =>
          refine rd_test (i := i) (c := c) (o := o) hg5 hcg hog hs ?_
          refine iteT ?_
          -- place_of[car] = here
          have hpl := length_putK kvs (ck c) (.int (pl n ws gg c))
          refine ⟨.int (pl n ws gg c), rfl, .ref d, rfl, .int (c : Int), rfl, d, _, rfl, DPut.k (k := ck c) hd5 (by rw [sizeLine_eq]; omega), ?_⟩
          -- place_of = dict(..)
          refine rd_but (K := K) (i := i) (c := c) (o := o) (kvs := putK kvs (ck c) (.int (pl n ws gg c))) upd_same (by omega) (hrp.put c) fun H7 D qs kw s7 hD hP hkw hr7 => ?_
          have sm6 : Same H (upd H5 d (.dK (putK kvs (ck c) (.int (pl n ws gg c))))) := fun b ob hb => by
            rw [upd_ne (ne_of_none hb nd)]
            exact sm5 b ob hb
          have sm7 := sm6.trans s7
          have hg7 : H7 g = some (.lst (gg.map V.int)) := s7 _ _ (by rw [upd_ne ngd]; exact hg5)
          refine ⟨D, qs, kw, rfl, SqL.of hD, hP, fun d2 nd2 => ?_⟩
          -- car = other
          refine ⟨.int (o : Int), rfl, ?_⟩
          -- steps[car] = steps[car] + 1
          have hg8 : (upd H7 d2 (.dK (mergeK [] kw))) g = some (.lst (gg.map V.int)) := by rw [upd_ne (ne_of_none hg7 nd2)]; exact hg7
          refine ⟨.ref g, rfl, .int (o : Int), rfl, g, _, o, .int (at0 gg o), rfl, rfl, SqL.of hg8, at_int hog, _, 1, rfl, rfl, .ref g, rfl, .int (o : Int), rfl, g, _, _, o, rfl, rfl, hg8, ixN_of (by rw [List.length_map]; exact hog), ?_⟩
          have W' := wa.swap hi hm
          have e' : (pl n ws gg c + 1) % n = pl n ws (gg.set o (at0 gg o + 1)) o := W'.pl
          have hml := length_mergeK kw []
          refine ⟨m', Nat.lt_succ_self _, put mm (pl n ws gg c) c, gg.set o (at0 gg o + 1), o, d2, mergeK [] kw, some (.int (o : Int)), some (.int (pl n ws gg c)), rfl, fun b ob hb => ?_, sm7.free nd2, ?_, ?_, ?_, hr7.congr (fun c' => by have := wa.ck; omega) (fun c' hc' => ?_), ?_, ?_, ?_⟩
          · rw [upd_ne (ne_of_none hb ngH), upd_ne (ne_of_none (sm7 b ob hb) nd2)]
            exact sm7 b ob hb
          · rw [upd_same, List.map_set]
          · rw [upd_ne (fun z => by rw [← z] at hg7; rw [nd2] at hg7; cases hg7), upd_same]
          · have : ([] : KvL).length = 0 := rfl
            omega
          · unfold pl
            rw [at0_set_ne (Ne.symm hc'.2)]
          · rw [← e', ← hgo, go_swap hm hs]
          · rw [← e']
            exact hf'.same (put_keys hm)
          · rw [← e']
            exact W'
        | true =>
          refine rd_test (i := i) (c := c) (o := o) hg5 hcg hog hs ?_
          refine iteF ?_
          refine ⟨.ref g, rfl, .int (c : Int), rfl, g, _, c, .int (at0 gg c), rfl, rfl, SqL.of hg5, at_int hcg, _, 1, rfl, rfl, .ref g, rfl, .int (c : Int), rfl, g, _, _, c, rfl, rfl, hg5, ixN_of (by rw [List.length_map]; exact hcg), ?_⟩
          have W' := wa.stay (o := o) hi
          have e' : (pl n ws gg c + 1) % n = pl n ws (gg.set c (at0 gg c + 1)) c := W'.pl
          refine ⟨m', Nat.lt_succ_self _, mm, gg.set c (at0 gg c + 1), c, d, kvs, some (.int (o : Int)), some (.int (pl n ws gg c)), rfl, fun b ob hb => ?_, nd, ?_, ?_, by omega, hrp.congr (fun c' => Iff.rfl) (fun c' hc' => ?_), ?_, ?_, ?_⟩
          · rw [upd_ne (ne_of_none hb ngH)]
            exact sm5 b ob hb
          · rw [upd_same, List.map_set]
          · rw [upd_ne ngd.symm]
            exact hd5
          · unfold pl
            rw [at0_set_ne (Ne.symm hc'.2)]
          · rw [← e', ← hgo, go_stay hm hs]
          · rw [← e']
            exact hf'
          · rw [← e']
            exact W'
    · rintro σ H2 ⟨d, y5, y6, y7, y8, rfl, sm2, nd, hg2, kvs, hd2, hk2, hr2⟩
      rw [hN] at hg2 hr2
      refine ⟨.ref a, rfl, .ref a, _, rfl, .inr ⟨_, sameT sm2 hS, rfl⟩, _, rfl, by rw [List.length_map]; omega, by rw [List.length_map]; omega, fun D nD => lc_range (fun j H3 => Same H2 H3 ∧ H3 D = some (.lst (((res (st bl) n ws).take j).map V.int))) ⟨same_upd nD, upd_same⟩ (fun j H3 hj h3 => ?_) (fun H3 h3 => ?_)⟩
      · obtain ⟨sm3, hD⟩ := h3
        rw [hN] at hj
        rw [Int.zero_add]
        refine ⟨rfl, .ref d, rfl, .int (j : Int), rfl, d, .int (pl n ws (stt (st bl) n ws ws.length).2 j), rfl, .inl ⟨kvs, ck j, .inl (sm3 _ _ hd2), rfl, (hr2.val j hj).symm⟩, _, hD, ?_, fun b o hb => ?_, ?_⟩
        · rw [List.length_map, List.length_take, res_len hn hw hl, sizeLine_eq]
          omega
        · rw [upd_ne (ne_of_none hb nD)]
          exact sm3 b o hb
        · rw [upd_same, List.take_add_one, res_get hn hw hl hj, List.map_append]
          rfl
      · obtain ⟨sm3, hD⟩ := h3
        rw [hN, List.take_of_length_le (by rw [res_len hn hw hl]; exact Nat.le_refl _)] at hD
        exact ⟨D, _, rfl, .inl ⟨SqL.of hD, fun l nl => q _ l ((sm2.trans sm3).trans (same_upd nl)) upd_same⟩⟩
end
end K13
namespace K13
open PySem PySem.Spec PyProof.Rows L2
theorem Tb.br {T : Tbs} {H H' : Hp} {r : Addr} {ys : List V} (t : Tb T H) (h : H r = some (.lst ys)) (e : Br r H H') : Tb T H' := by
  have kg : ∀ {P : Addr}, GxR.TabG H P → GxR.TabG H' P := fun ⟨ps, e1, r1⟩ => ⟨ps, e _ _ (fun z => by rw [z, h] at e1; cases e1) e1, r1⟩
  have ks : ∀ {P : Addr} {q : Str}, LamX.TabS H P q → LamX.TabS H' P q := fun ⟨ps, e1, r1, s⟩ => ⟨ps, e _ _ (fun z => by rw [z, h] at e1; cases e1) e1, r1, fun pos cv hc => by
    obtain ⟨c, e2, e3⟩ := s pos cv hc
    refine ⟨c, e2, e _ _ (fun z => ?_) e3⟩
    rw [z, h] at e3
    have := Option.some.inj e3
    unfold LamX.CodeO at this
    cases this⟩
  exact ⟨kg t.aw, kg t.st, ks t.pl, ks t.pf, ks t.pw⟩
/-- what the law holds -/
structure Fx (T : Tbs) (K : PySem.W.Frag) (n : Int) (ws ps : List Int) (aW aP aL aF : Addr) (H : Hp) : Prop where
  tb : Tb T H
  w : SqT K H aW (ws.map V.int)
  p : SqL K H aP (ps.map V.int)
  l : SqT K H aL ((res lastS n ws).map V.int)
  f : SqT K H aF ((res farS n ws).map V.int)
theorem Fx.ex {T : Tbs} {K : PySem.W.Frag} {n : Int} {ws ps : List Int} {aW aP aL aF : Addr} {H H' : Hp} (h : Fx T K n ws ps aW aP aL aF H) (e : Ex T H H') : Fx T K n ws ps aW aP aL aF H' := ⟨e.tb, e.sqT h.tb h.w, e.sqL h.tb h.p, e.sqT h.tb h.l, e.sqT h.tb h.f⟩
theorem Fx.sm {T : Tbs} {K : PySem.W.Frag} {n : Int} {ws ps : List Int} {aW aP aL aF : Addr} {H H' : Hp} (h : Fx T K n ws ps aW aP aL aF H) (e : Same H H') : Fx T K n ws ps aW aP aL aF H' := h.ex (.of h.tb e)
/-- a value that the law shows: no tuple, or a tuple of ints -/
def Vl (K : PySem.W.Frag) (H : Hp) (v : V) : Prop := (v = .non ∨ (∃ i, v = .int i) ∨ ∃ l ys, v = .ref l ∧ H l = some (.lst ys)) ∨ ∃ (b : Addr) (xs : List Int), v = .ref b ∧ SqT K H b (xs.map V.int) ∧ xs.length ≤ 1000
def Vls (K : PySem.W.Frag) (H : Hp) (l : List V) : Prop := ∀ v ∈ l, Vl K H v
theorem Vl.ex {T : Tbs} {K : PySem.W.Frag} {H H' : Hp} {v : V} (h : Vl K H v) (t : Tb T H) (e : Ex T H H') : Vl K H' v := by
  rcases h with (h | h | ⟨l, ys, e1, h⟩) | ⟨b, xs, e1, h, hl⟩
  · exact .inl (.inl h)
  · exact .inl (.inr (.inl h))
  · exact .inl (.inr (.inr ⟨l, ys, e1, e.at_ t h⟩))
  · exact .inr ⟨b, xs, e1, e.sqT t h, hl⟩
theorem Vl.no {K : PySem.W.Frag} {H : Hp} {v : V} (h : v = .non ∨ (∃ i, v = .int i) ∨ ∃ l ys, v = .ref l ∧ H l = some (.lst ys)) : NoT K H v := by
  rcases h with rfl | ⟨i, rfl⟩ | ⟨l, ys, rfl, h⟩
  · exact ⟨_, .base .non, kit_ty (by decide +kernel)⟩
  · exact ⟨_, .base (.int i), kit_ty (by decide +kernel)⟩
  · exact ⟨_, .base (.lst h), kit_ty (by decide +kernel)⟩
/-- a list is written -/
theorem sqT_wr {K : PySem.W.Frag} {H : Hp} {a l : Addr} {xs ys zs : List V} (h : SqT K H a xs) (hl : H l = some (.lst ys)) : SqT K (upd H l (.lst zs)) a xs := by
  rcases h with (h | ⟨o, h⟩) | h
  · exact .inl (.inl (by rw [upd_ne (fun z => by rw [z, hl] at h; cases h)]; exact h))
  · exact .inl (.inr ⟨o, by rw [upd_ne (fun z => by rw [z, hl] at h; cases h)]; exact h⟩)
  · exact .inr h
theorem Vl.wr {K : PySem.W.Frag} {H : Hp} {v : V} {l : Addr} {ys zs : List V} (h : Vl K H v) (hl : H l = some (.lst ys)) : Vl K (upd H l (.lst zs)) v := by
  rcases h with (h | h | ⟨l2, ys2, e1, h⟩) | ⟨b, xs, e1, h, hz⟩
  · exact .inl (.inl h)
  · exact .inl (.inr (.inl h))
  · by_cases z : l2 = l
    · exact .inl (.inr (.inr ⟨l2, zs, e1, by rw [z]; exact upd_same⟩))
    · exact .inl (.inr (.inr ⟨l2, ys2, e1, by rw [upd_ne z]; exact h⟩))
  · exact .inr ⟨b, xs, e1, sqT_wr h hl, hz⟩
theorem at_prev {xs : List Int} {i : Nat} (h : i < xs.length) : ∃ z, atI (xs.map V.int) ((i : Int) - 1) = some (.int z) := by
  unfold atI ixN
  rw [List.length_map]
  by_cases h0 : 0 ≤ (i : Int) - 1
  · rw [if_pos h0, if_pos (by omega)]
    refine ⟨at0 xs ((i : Int) - 1).toNat, ?_⟩
    show (xs.map V.int)[((i : Int) - 1).toNat]? = _
    rw [List.getElem?_map, at0_get (by omega)]
    rfl
  · rw [if_neg h0, if_pos (by omega)]
    refine ⟨at0 xs ((i : Int) - 1 + xs.length).toNat, ?_⟩
    show (xs.map V.int)[((i : Int) - 1 + xs.length).toNat]? = _
    rw [List.getElem?_map, at0_get (by omega)]
    rfl
theorem Vls.ex {T : Tbs} {K : PySem.W.Frag} {H H' : Hp} {l : List V} (h : Vls K H l) (t : Tb T H) (e : Ex T H H') : Vls K H' l := fun v hv => (h v hv).ex t e
theorem Vls.sm {T : Tbs} {K : PySem.W.Frag} {H H' : Hp} {l : List V} (h : Vls K H l) (t : Tb T H) (e : Same H H') : Vls K H' l := h.ex t (.of t e)
theorem Vls.snoc {K : PySem.W.Frag} {H : Hp} {l : List V} {v : V} (h : Vls K H l) (k : Vl K H v) : Vls K H (l ++ [v]) := fun x hx => by
  rcases List.mem_append.mp hx with z | z
  · exact h x z
  · rw [List.mem_singleton] at z
    rw [z]
    exact k
theorem Vls.snT {K : PySem.W.Frag} {H : Hp} {l : List V} {b : Addr} {xs : List Int} (h : Vls K H l) (k : SqT K H b (xs.map V.int)) (hl : xs.length ≤ 1000) : Vls K H (l ++ [.ref b]) := h.snoc (.inr ⟨b, xs, rfl, k, hl⟩)
theorem repI {K : PySem.W.Frag} {H : Hp} {a : Addr} {x : Int} {m : Nat} {Q : VK} (h : SqT K H a [V.int x]) (hm : m ≤ 1000) (q : ∀ H' b, Same H H' → SqT K H' b ((List.replicate m x).map V.int) → Q (.ref b) H') : rRepA K (.ref a) (.int (m : Int)) H Q := by
  have fl : ∀ k : Nat, (List.replicate k [V.int x]).flatten = (List.replicate k x).map V.int := fun k => by
    induction k with
    | zero => rfl
    | succ k ih =>
      rw [List.replicate_succ, List.replicate_succ, List.flatten_cons, ih]
      rfl
  refine ⟨a, m, _, rfl, rfl, h, by simp, by omega, by omega, by show 1 ≤ 1000; decide, fun e => ?_, fun _ p np => ?_⟩
  · have : m = 1 := by omega
    subst this
    exact q H a (Same.refl H) h
  · refine q _ p (same_upd np) (.inl (.inl ?_))
    rw [upd_same, Int.toNat_natCast, fl]
section
variable {P : Program} {w : World} {K : PySem.W.Frag} {mg : Str → Option Value} {base : Heap}
abbrev nLaw : List Str := ["_law_script", "_law_row", "_law_size", "_law_wishes_here", "_law_places", "_law_last", "_law_far", "_law_k", "_law_walks", "_law_least_here", "_law_values", "_law_value", "_law_due", "_law_j"]
/-- a def that is called, by its name -/
structure Cal (K : PySem.W.Frag) (mg : Str → Option Value) (x : Str) (f : Addr) (fd : FuncData) (ps : List Str) : Prop where
  g : mg x = some (.ref f)
  kp : PySem.W.keepIn K (.ref f) = true
  b : Binds K fd ps []
theorem De.cal {x : Str} {s : Stmt} {ps : List Str} {f : Addr} {fd : FuncData} (D : De K mg x s ps f fd) : Cal K mg x f fd ps := ⟨D.g, D.F.kp, D.b⟩
theorem DeC.cal {x : Str} {s : Stmt} {ps : List Str} {f c : Addr} {fd : FuncData} (D : DeC K mg x s ps f fd c) : Cal K mg x f fd ps := ⟨D.g, D.kp, D.b⟩
def spLaw (T : Tbs) (K : PySem.W.Frag) : Sp := fun vs H Q _ => ∃ (a : Addr) (xs : List Int), vs = [.ref a] ∧ SqL K H a (xs.map V.int) ∧ Tb T H ∧ ∀ H', Q (.bl true) H'
theorem sc_law : FnScope nLaw ["_law_script"] (defScope sLaw) := ⟨rfl, rfl, rfl, by decide +kernel, rfl, by decide +kernel, by decide +kernel⟩
theorem ok_law {T : Tbs} {f fT fW fS fG fA fL fBL fBF fSW fLW fSh : Addr} {fd fdT fdW fdS fdG fdA fdL fdBL fdBF fdSW fdLW fdSh : FuncData} (D : De K mg "law" sLaw ["_law_script"] f fd) (X : Tx mg) (ap : T.Apart)
    (CT : Cal K mg "_law_taken" fT fdT ["_law_row", "_law_many"]) (GT : FnOk P w K mg base CX0 1 fT fdT ["_law_row", "_law_many"] (spTaken K))
    (CW : Cal K mg "_law_wishes" fW fdW ["_law_row", "_law_size"]) (GW : FnOk P w K mg base CX0 3 fW fdW ["_law_row", "_law_size"] (spWishes K))
    (CS : Cal K mg "_law_spots" fS fdS ["_law_size", "_law_wishes_here"]) (GS : FnOk P w K mg base CX0 1 fS fdS ["_law_size", "_law_wishes_here"] (spSpots K))
    (CG : Cal K mg "_law_settled" fG fdG ["_law_size", "_law_wishes_here", "_law_is_last"]) (GG : FnOk P w K mg base CX0 1 fG fdG ["_law_size", "_law_wishes_here", "_law_is_last"] (spLSettled K))
    (CA : Cal K mg "_law_alike" fA fdA ["_law_found", "_law_due"]) (GA : FnOk P w K mg base CX0 3 fA fdA ["_law_found", "_law_due"] (spAlike K 2))
    (CL : Cal K mg "_law_least" fL fdL ["_law_size", "_law_wishes_here", "_law_places"]) (GL : FnOk P w K mg base CX0 8 fL fdL ["_law_size", "_law_wishes_here", "_law_places"] (spLeast K 7))
    (CBL : Cal K mg "by_last" fBL fdBL ["size", "wishes"]) (GBL : FnOk P w K mg base CX0 4 fBL fdBL ["size", "wishes"] (spBy T K lastS))
    (CBF : Cal K mg "by_farthest" fBF fdBF ["size", "wishes"]) (GBF : FnOk P w K mg base CX0 4 fBF fdBF ["size", "wishes"] (spBy T K farS))
    (CSW : Cal K mg "stand_walks" fSW fdSW ["size", "wishes", "stand"]) (GSW : FnOk P w K mg base CX0 5 fSW fdSW ["size", "wishes", "stand"] (spStandWalks T K))
    (CLW : Cal K mg "least_worst" fLW fdLW ["size", "wishes"]) (GLW : FnOk P w K mg base CX0 4 fLW fdLW ["size", "wishes"] (spWorst T K))
    (CSh : Cal K mg "shows_least_worst" fSh fdSh ["size", "wishes", "value"]) (GSh : FnOk P w K mg base CX0 4 fSh fdSh ["size", "wishes", "value"] (spShows T K)) :
    FnOk P w K mg base CX0 9 f fd ["_law_script"] (spLaw T K) := by
  refine D.F.ok sc_law (fun vs H Q E h => ?_) (fun cdv A outer s H vs Q E hr h => ?_)
  · obtain ⟨a, xs, rfl, _⟩ := h
    rfl
  · obtain ⟨sc, ns, rfl, hS, tb, q⟩ := h
    have le1 : 1 ≤ 8 := by decide
    have le3 : 3 ≤ 8 := by decide
    have le4 : 4 ≤ 8 := by decide
    have le5 : 5 ≤ 8 := by decide
    refine ⟨_, pss_cons (ps_set (i := 1) sc_law.nd rfl (.inl rfl) (pe_lst (pa_cons (pv 0) (pa_cons pe_int (pa_cons pe_int (pa_cons pe_int pa_nil))))))
      (pss_cons (ps_set (i := 2) sc_law.nd rfl (.inr rfl) (pe_op op_add pe_int (pe_call GT (hr.mono le1) (by rfl) CT.g CT.kp CT.b .nil pass0 (pa_cons (pv 1) (pa_cons pe_int pa_nil)))))
      (pss_cons (ps_set (i := 3) sc_law.nd rfl (.inr rfl) (pe_slice sl_tupA (pe_call GW (hr.mono le3) (by rfl) CW.g CW.kp CW.b .nil pass0 (pa_cons (pv 1) (pa_cons (pv 2) pa_nil))) po_none (po_some pe_int)))
      (pss_cons (ps_set (i := 4) sc_law.nd rfl (.inl rfl) (pe_callB (cr_sortedB true) (by rfl) X.sorted (by decide +kernel) (pa_cons (pe_call GS (hr.mono le1) (by rfl) CS.g CS.kp CS.b .nil pass0 (pa_cons (pv 2) (pa_cons (pv 3) pa_nil))) pa_nil)))
      (pss_cons (ps_asg (pe_tup (pa_cons (pe_call GG (hr.mono le1) (by rfl) CG.g CG.kp CG.b .nil pass0 (pa_cons (pv 2) (pa_cons (pv 3) (pa_cons pe_bl pa_nil)))) (pa_cons (pe_call GG (hr.mono le1) (by rfl) CG.g CG.kp CG.b .nil pass0 (pa_cons (pv 2) (pa_cons (pv 3) (pa_cons pe_bl pa_nil)))) pa_nil)))
          (pg_tup rfl (pgs_cons (pg_name (i := 5) sc_law.nd rfl (.inl rfl)) (pgs_cons (pg_name (i := 6) sc_law.nd rfl (.inr rfl)) pgs_nil))))
      (pss_cons (ps_if (PW.pt (pw_or (pt_not (pt_val (pe_call GA (hr.mono le3) (by rfl) CA.g CA.kp CA.b .nil pass0 (pa_cons (pe_call GBL (hr.mono le4) (by rfl) CBL.g CBL.kp CBL.b .nil pass0 (pa_cons (pv 2) (pa_cons (pv 3) pa_nil))) (pa_cons (pv 5) pa_nil)))))
          (pw_or1 (pt_not (pt_val (pe_call GA (hr.mono le3) (by rfl) CA.g CA.kp CA.b .nil pass0 (pa_cons (pe_call GBF (hr.mono le4) (by rfl) CBF.g CBF.kp CBF.b .nil pass0 (pa_cons (pv 2) (pa_cons (pv 3) pa_nil))) (pa_cons (pv 6) pa_nil)))))))) (pss_one (ps_ret pe_bl)) pss_nil)
      (pss_cons (ps_if (PW.pt (pw_or (pt_cmpR (op_neD hr.units) (pe_callB (cr_sortedB false) (by rfl) X.sorted (by decide +kernel) (pa_cons (pv 5) pa_nil)) (pv 4) (nomark _))
          (pw_or1 (pt_cmpR (op_neD hr.units) (pe_callB (cr_sortedB false) (by rfl) X.sorted (by decide +kernel) (pa_cons (pv 6) pa_nil)) (pv 4) (nomark _))))) (pss_one (ps_ret pe_bl)) pss_nil)
      (pss_cons (ps_setLc (i := 8) (own := [("_law_k", 7)]) (g := gName 7) (tt := tYes) rfl sc_law.nd rfl (by rfl) (by rfl) (pi_range1 (by rfl) X.range (pa_cons (pe_callB call_len (by rfl) X.len (by decide +kernel) (pa_cons (pv 3) pa_nil)) pa_nil)) (blkOk_by (N := nLaw) (sc := defScope sLaw) (by decide +kernel))
          (fun _ _ _ _ _ => pg_name (i := 7) sc_law.nd rfl (.inl rfl)) (fun _ _ _ _ _ => pts_nil) (fun _ _ _ _ _ => pe_op op_mod (pe_op op_sub (pe_ix (r := rIxT K) ix_tup (pv 6) (pv 7) (fun _ _ => rfl)) (pe_ix (r := rIxT K) ix_tup (pv 3) (pv 7) (fun _ _ => rfl))) (pv 2)))
      (pss_cons (ps_if (pt_not (pt_val (pe_call GA (hr.mono le3) (by rfl) CA.g CA.kp CA.b .nil pass0 (pa_cons (pe_call GSW (hr.mono le5) (by rfl) CSW.g CSW.kp CSW.b .nil pass0 (pa_cons (pv 2) (pa_cons (pv 3) (pa_cons (pv 6) pa_nil)))) (pa_cons (pe_callTy call_tuple_of (by rfl) X.tuple (by decide +kernel) (pa_cons (pv 8) pa_nil)) pa_nil))))) (pss_one (ps_ret pe_bl)) pss_nil)
      (pss_cons (ps_set (i := 9) sc_law.nd rfl (.inl rfl) (pe_call GL hr (by rfl) CL.g CL.kp CL.b .nil pass0 (pa_cons (pv 2) (pa_cons (pv 3) (pa_cons (pv 4) pa_nil)))))
      (pss_cons (ps_if (PW.pt (pw_or (pt_not (pt_val (pe_call GA (hr.mono le3) (by rfl) CA.g CA.kp CA.b .nil pass0 (pa_cons (pe_call GLW (hr.mono le4) (by rfl) CLW.g CLW.kp CLW.b .nil pass0 (pa_cons (pv 2) (pa_cons (pv 3) pa_nil))) (pa_cons (pv 9) pa_nil)))))
          (pw_or1 (pt_cmpR op_ne (pe_callB (cr_max rfl) (by rfl) X.max (by decide +kernel) (pa_cons (pe_op op_cat (pv 8) (pe_lst (pa_cons pe_int pa_nil))) pa_nil)) (pv 9) (nomark _))))) (pss_one (ps_ret pe_bl)) pss_nil)
      (pss_cons (ps_set (i := 10) sc_law.nd rfl (.inl rfl) (pe_lst (pa_cons (pv 6) (pa_cons (pv 5) (pa_cons (pe_callTy call_list_of (by rfl) X.list (by decide +kernel) (pa_cons (pv 6) pa_nil)) (pa_cons (pe_slice sl_tupA (pv 6) (po_some pe_int) po_none) (pa_cons (pe_revT (pv 6))
          (pa_cons (pe_op op_catA (pv 6) (pe_tup (pa_cons pe_int pa_nil))) (pa_cons (pe_tup pa_nil) (pa_cons pe_non (pa_cons pe_int (pa_cons (pe_callTy call_tuple_of (by rfl) X.tuple (by decide +kernel) (pa_cons (pv 4) pa_nil))
          (pa_cons (pe_op op_repA (pe_tup (pa_cons (pv 2) pa_nil)) (pe_callB call_len (by rfl) X.len (by decide +kernel) (pa_cons (pv 6) pa_nil))) pa_nil)))))))))))))
      (pss_cons (ps_for PassesOwn.never rfl (pi_range1 (by rfl) X.range (pa_cons (pe_callB call_len (by rfl) X.len (by decide +kernel) (pa_cons (pv 6) pa_nil)) pa_nil)) (pg_name (i := 7) sc_law.nd rfl (.inr rfl))
        (pss_cons (ps_expr (pe_bm PySem.F.plainAttrs_list PySem.F.slot_list_append PySem.F.type_list_append mt_append (pv 10) (pa_cons (pe_op op_catA (pe_op op_catA (pe_slice sl_tupA (pv 6) po_none (po_some (pv 7))) (pe_tup (pa_cons (pe_ix ix_tup (pv 6) (pe_op op_sub (pv 7) pe_int) (fun _ _ => rfl)) pa_nil))) (pe_slice sl_tupA (pv 6) (po_some (pe_op op_add (pv 7) pe_int)) po_none)) pa_nil)))
        (pss_one (ps_expr (pe_bm PySem.F.plainAttrs_list PySem.F.slot_list_append PySem.F.type_list_append mt_append (pv 10) (pa_cons (pe_callTy call_tuple_of (by rfl) X.tuple (by decide +kernel) (pa_cons (pe_lc (own := [("_law_j", 13)]) (g := gName 13) (tt := tYes) rfl sc_law.nd (pi_range1 (by rfl) X.range (pa_cons (pe_callB call_len (by rfl) X.len (by decide +kernel) (pa_cons (pv 6) pa_nil)) pa_nil)) (blkOk_by (N := nLaw) (sc := defScope sLaw) (by decide +kernel))
            (fun _ _ _ _ _ => pg_name (i := 13) sc_law.nd rfl (.inl rfl)) (fun _ _ _ _ _ => pts_nil) (fun _ _ _ _ _ => pe_ifExp (pt_cmpR (r := rIn K true) op_notIn_seq (pv 13) (pe_lst (pa_cons (pv 7) (pa_cons pe_int pa_nil))) rfl) (pe_ix (r := rIxT K) ix_tup (pv 6) (pv 13) (fun _ _ => rfl)) (pe_ifExp (pt_cmp (pc_eqI (pv 13) (pv 7))) (pe_ix (r := rIxT K) ix_tup (pv 6) pe_int (fun _ _ => rfl)) (pe_ix (r := rIxT K) ix_tup (pv 6) (pv 7) (fun _ _ => rfl))))) pa_nil)) pa_nil))))))
      (pss_cons (ps_for PassesOwn.never rfl (pi_list (pv 10)) (pg_name (i := 11) sc_law.nd rfl (.inr rfl))
        (pss_cons (ps_set (i := 12) sc_law.nd rfl (.inl rfl) (pe_and (pe_callB call_isi (by rfl) X.isi (by decide +kernel) (pa_cons (pv 11) (pa_cons (pe_bltn (v := .ty "tuple") (by rfl) X.tuple (by decide +kernel) rfl) pa_nil))) (pe_one (pe_cmpR (op_eqD hr.units) (pe_callB (cr_sortedB false) (by rfl) X.sorted (by decide +kernel) (pa_cons (pv 11) pa_nil)) (pv 4) (nomark _)))))
        (pss_cons (ps_set (i := 12) sc_law.nd rfl (.inl rfl) (pe_and (pv 12) (pe_one (pe_cmpR op_eq (pe_callB (cr_max rfl) (by rfl) X.max (by decide +kernel) (pa_cons (pe_op op_cat (pe_lc (own := [("_law_k", 7)]) (g := gName 7) (tt := tYes) rfl sc_law.nd (pi_range1 (by rfl) X.range (pa_cons (pe_callB call_len (by rfl) X.len (by decide +kernel) (pa_cons (pv 3) pa_nil)) pa_nil)) (blkOk_by (N := nLaw) (sc := defScope sLaw) (by decide +kernel))
            (fun _ _ _ _ _ => pg_name (i := 7) sc_law.nd rfl (.inl rfl)) (fun _ _ _ _ _ => pts_nil) (fun _ _ _ _ _ => pe_op op_mod (pe_op op_sub (pe_ix (r := rIxT K) ix_tup (pv 11) (pv 7) (fun _ _ => rfl)) (pe_ix (r := rIxT K) ix_tup (pv 3) (pv 7) (fun _ _ => rfl))) (pv 2))) (pe_lst (pa_cons pe_int pa_nil))) pa_nil)) (pv 9) (nomark _)))))
        (pss_one (ps_if (pt_not (pt_val (pe_call GA (hr.mono le3) (by rfl) CA.g CA.kp CA.b .nil pass0 (pa_cons (pe_call GSh (hr.mono le4) (by rfl) CSh.g CSh.kp CSh.b .nil pass0 (pa_cons (pv 2) (pa_cons (pv 3) (pa_cons (pv 11) pa_nil)))) (pa_cons (pv 12) pa_nil))))) (pss_one (ps_ret pe_bl)) pss_nil)))))
      (pss_one (ps_ret pe_bl))))))))))))))), ?_⟩
    -- row
    refine ⟨.ref sc, rfl, by show 4 ≤ sizeLine; rw [sizeLine_eq]; decide, fun r nr => ?_⟩
    have tb0 : Tb T (upd H r (.lst [.ref sc, .int 0, .int 8813, .int 0])) := tb.same (same_upd nr)
    have hR0 : Rw K (upd H r (.lst [.ref sc, .int 0, .int 8813, .int 0])) r := ⟨sc, ns, 0, 8813, 0, upd_same, (same_upd nr).seq hS, by decide, by decide⟩
    -- size
    refine ⟨.ref r, rfl, r, 6, rfl, by decide, by decide, hR0, fun H1 dd hb1 hR1 d0 d6 => ⟨2, dd, rfl, rfl, ?_⟩⟩
    have tb1 : Tb T H1 := tb0.br upd_same ((Br.refl _).bt hb1)
    obtain ⟨n, en⟩ : ∃ n, n = 2 + dd := ⟨_, rfl⟩
    have h2 : 2 ≤ n := by omega
    have h9 : n ≤ 9 := by omega
    have hn : 0 < n := by omega
    show gName 2 (V.int (2 + dd)) _ _ _
    rw [← en]
    -- wishes
    refine ⟨.ref r, rfl, .int n, rfl, r, n, rfl, h2, h9, hR1, fun H2 aW0 ws0 hbr hne hw0 hok0 hlen => noPart ⟨6, rfl, ?_⟩⟩
    obtain ⟨ys1, hy1⟩ := hR1.at_
    have tb2 : Tb T H2 := tb1.br hy1 hbr
    refine slI (xs := ws0) (.inl (.inl hw0)) fun H3 aW s3 hW => ?_
    have tb3 := tb2.same s3
    obtain ⟨ws, ews⟩ : ∃ ws, ws = cutI ws0 none (some 6) := ⟨_, rfl⟩
    have hok : WsOk n ws := fun x hx => hok0 x (cutI_mem (by rw [← ews]; exact hx))
    have hl6 : ws.length ≤ 6 := by rw [ews]; exact cutI_head ws0 6
    have hl : (ws.length : Int) ≤ n := by
      have := cutI_len ws0 none (some 6)
      rw [← ews] at this
      omega
    rw [← ews] at hW
    -- places
    refine ⟨.int n, rfl, .ref aW, rfl, n, aW, ws, rfl, hn, hW, hl, h9, hok, fun H4 p2 sm np2 hp2 => ⟨p2, sp n ws, rfl, SqL.of hp2, fun ps aP hperm hsort nP => ?_⟩⟩
    have s5 : Same H3 (upd H4 aP (.lst (ps.map V.int))) := sm.trans (same_upd nP)
    -- last, far
    refine ⟨.int n, rfl, .ref aW, rfl, n, aW, ws, true, rfl, hn, h9, sameT s5 hW, hl, hok, fun H5 aL s6 hL => ?_⟩
    refine ⟨.int n, rfl, .ref aW, rfl, n, aW, ws, false, rfl, hn, h9, sameT (s5.trans s6) hW, hl, hok, fun H6 aF s7 hF => ?_⟩
    refine ⟨by show 2 ≤ sizeLine; rw [sizeLine_eq]; decide, fun T0 nT0 => ⟨T0, _, rfl, .inl (.inl upd_same), rfl, _, _, rfl, _, _, rfl, rfl, ?_⟩⟩
    have s8 : Same H6 (upd H6 T0 (.tup [.ref aL, .ref aF])) := same_upd nT0
    have s9 : Same H3 (upd H6 T0 (.tup [.ref aL, .ref aF])) := (s5.trans s6).trans (s7.trans s8)
    have fx : Fx T K n ws ps aW aP aL aF (upd H6 T0 (.tup [.ref aL, .ref aF])) := ⟨tb3.same s9, sameT s9 hW, (s6.trans (s7.trans s8)).seq (SqL.of upd_same), .inl (.inl (s8 _ _ (s7 _ _ hL))), .inl (.inl (s8 _ _ hF))⟩
    show tSeq _ _ _ _ (upd H6 T0 (.tup [.ref aL, .ref aF]))
    generalize upd H6 T0 (.tup [.ref aL, .ref aF]) = H7 at fx
    have lenL := res_len (stay := lastS) hn hok hl
    have lenF := res_len (stay := farS) hn hok hl
    -- by_last, by_farthest
    refine ⟨.int n, rfl, .ref aW, rfl, n, aW, ws, rfl, h2, h9, fx.w, hl, hok, fx.tb, fun H8 p8 e8 np8 hp8 => ⟨.ref aL, rfl, .inr (.inr ⟨p8, aL, res lastS n ws, by decide, rfl, .inl (.inl hp8), (fx.ex e8).l, by omega, fun H9 s9 => ⟨true, rfl, iteF ?_⟩⟩)⟩⟩
    have fx9 := (fx.ex e8).sm s9
    clear fx
    refine ⟨.int n, rfl, .ref aW, rfl, n, aW, ws, rfl, h2, h9, fx9.w, hl, hok, fx9.tb, fun H10 p10 e10 np10 hp10 => ⟨.ref aF, rfl, .inr (.inr ⟨p10, aF, res farS n ws, by decide, rfl, .inl (.inl hp10), (fx9.ex e10).f, by omega, fun H11 s11 => ⟨true, rfl, iteF ?_⟩⟩)⟩⟩
    have fx := (fx9.ex e10).sm s11
    clear fx9
    -- sorted(last), sorted(far)
    refine ⟨.ref aL, rfl, aL, res lastS n ws, rfl, fx.l, fun xs q1 hx1 hx2 nq1 => ⟨.ref aP, rfl, .list (xs.map PyData.int), .list (ps.map PyData.int), .lst (SqL.of upd_same) (dpAll_ints xs), .lst ((same_upd nq1).seq fx.p) (dpAll_ints ps), shaped_list _, shaped_list _, false, ?_, iteF ?_⟩⟩
    · have : xs = ps := sorted_uniq ((hx1.trans (res_perm hn hok hl)).trans hperm.symm) hx2 hsort
      rw [eqv_lists, decide_eq_true this]
      rfl
    have fx1 := fx.sm (same_upd (o := .lst (xs.map V.int)) nq1)
    clear fx
    refine ⟨.ref aF, rfl, aF, res farS n ws, rfl, fx1.f, fun xs2 q2 hy1 hy2 nq2 => ⟨.ref aP, rfl, .list (xs2.map PyData.int), .list (ps.map PyData.int), .lst (SqL.of upd_same) (dpAll_ints xs2), .lst ((same_upd nq2).seq fx1.p) (dpAll_ints ps), shaped_list _, shaped_list _, false, ?_, iteF ?_⟩⟩
    · have : xs2 = ps := sorted_uniq ((hy1.trans (res_perm hn hok hl)).trans hperm.symm) hy2 hsort
      rw [eqv_lists, decide_eq_true this]
      rfl
    have fx := fx1.sm (same_upd (o := .lst (xs2.map V.int)) nq2)
    clear fx1
    show tSeq _ _ _ _ (upd (upd H11 q1 (.lst (xs.map V.int))) q2 (.lst (xs2.map V.int)))
    generalize upd (upd H11 q1 (.lst (xs.map V.int))) q2 (.lst (xs2.map V.int)) = H12 at fx
    -- walks
    have hN : (((ws.map V.int).length : Nat) : Int).toNat = ws.length := by rw [List.length_map, Int.toNat_natCast]
    refine ⟨.ref aW, rfl, .ref aW, _, rfl, .inr ⟨_, fx.w, rfl⟩, _, rfl, by rw [List.length_map]; omega, by rw [List.length_map]; omega, fun DK nDK => lc_range (fun j H3 => Same H12 H3 ∧ H3 DK = some (.lst (((wk n (res farS n ws) ws).take j).map V.int))) ⟨same_upd nDK, upd_same⟩ (fun j H3 hj h3 => ?_) (fun H13 h13 => ?_)⟩
    · obtain ⟨sm3, hD⟩ := h3
      rw [hN] at hj
      rw [Int.zero_add]
      have hj1 : j < (res farS n ws).length := by omega
      refine ⟨rfl, .ref aF, rfl, .int (j : Int), rfl, aF, _, j, .int (at0 (res farS n ws) j), rfl, rfl, sameT sm3 fx.f, at_int hj1, .ref aW, rfl, .int (j : Int), rfl, aW, _, j, .int (at0 ws j), rfl, rfl, sameT sm3 fx.w, at_int hj, _, _, rfl, rfl, .int n, rfl, _, n, rfl, rfl, hn, _, hD, ?_, fun b o hb => ?_, ?_⟩
      · rw [List.length_map, List.length_take, wk_len lenF, sizeLine_eq]
        omega
      · rw [upd_ne (ne_of_none hb nDK)]
        exact sm3 b o hb
      · rw [upd_same, List.take_add_one, wk_get hj1 hj, List.map_append]
        rfl
    obtain ⟨sm13, hK⟩ := h13
    rw [hN, List.take_of_length_le (by rw [wk_len lenF]; exact Nat.le_refl _)] at hK
    have fx13 := fx.sm sm13
    clear fx
    have lenK := wk_len (n := n) lenF
    -- stand_walks
    refine ⟨.int n, rfl, .ref aW, rfl, .ref aF, rfl, n, aW, aF, ws, res farS n ws, rfl, h2, h9, fx13.w, hl, hok, fx13.tb, fx13.f, isSt_iff.mpr (res_perm hn hok hl), fun H14 p14 e14 np14 hp14 => ⟨.ref DK, rfl, DK, _, rfl, .inl ⟨SqL.of (e14.at_ fx13.tb hK), fun l14 nl14 => .inr (.inr ⟨p14, l14, wk n (res farS n ws) ws, by decide, rfl, .inl (.inl (same_upd nl14 _ _ hp14)), .inl (.inl upd_same), by omega, fun H15 s15 => ⟨true, rfl, iteF ?_⟩⟩)⟩⟩⟩
    have e15 : Ex T H13 H15 := (e14.up (same_upd nl14)).up s15
    have fx15 := fx13.ex e15
    have hK15 : H15 DK = some (.lst ((wk n (res farS n ws) ws).map V.int)) := e15.at_ fx13.tb hK
    clear fx13
    -- least
    have lenP : ps.length = ws.length := hperm.length_eq.trans (sp_len n ws)
    have best := far_best hn hok hl hperm
    have hW2 : mxl (wk n (res farS n ws) ws) = least n ws ps := Mx.uniq (mxl_mx _) best
    refine ⟨.int n, rfl, .ref aW, rfl, .ref aP, rfl, n, aW, aP, ws, ps, rfl, hn, fx15.w, fx15.p, by omega, by omega, by omega, fun H16 s16 => ?_⟩
    have fx16 := fx15.sm s16
    have hK16 := s16 _ _ hK15
    clear fx15
    -- least_worst
    refine ⟨.int n, rfl, .ref aW, rfl, n, aW, ws, rfl, h2, h9, fx16.w, hl, hok, fx16.tb, fun H17 e17 => ⟨.int (least n ws ps), rfl, .inl ⟨least n ws ps, ?_, fun H18 s18 => ⟨true, rfl, iteF ?_⟩⟩⟩⟩
    · show [V.int (mxl _), V.int (least n ws ps)] = _
      rw [hW2]
    have e18 := e17.up s18
    have fx18 := fx16.ex e18
    have hK18 : H18 DK = some (.lst ((wk n (res farS n ws) ws).map V.int)) := e18.at_ fx16.tb hK16
    clear fx16
    -- max(walks + [0])
    refine ⟨.ref DK, rfl, by show 1 ≤ sizeLine; rw [sizeLine_eq]; decide, fun z1 nz1 => ⟨DK, z1, _, _, rfl, rfl, same_upd nz1 _ _ hK18, upd_same, ?_, fun z2 nz2 => ⟨z2, wk n (res farS n ws) ws ++ [0], rfl, SqL.of (by rw [upd_same, List.map_append]; rfl), by rw [List.length_append]; exact Nat.succ_pos _, fun m hm hle => ⟨.int (least n ws ps), rfl, rfl, false, ?_, iteF ?_⟩⟩⟩⟩
    · rw [List.length_map, lenK, sizeLine_eq]
      show ws.length + 1 ≤ _
      omega
    · have : m = least n ws ps := Mx.uniq ⟨hm, hle⟩ best
      rw [this]
      exact congrArg (fun z => V.bl (!z)) (decide_eq_true rfl)
    have fx := fx18.sm ((same_upd (o := .lst [V.int 0]) nz1).trans (same_upd (o := .lst ((wk n (res farS n ws) ws).map V.int ++ [V.int 0])) nz2))
    show tSeq _ _ _ _ (upd (upd H18 z1 (.lst [V.int 0])) z2 (.lst ((wk n (res farS n ws) ws).map V.int ++ [V.int 0])))
    generalize upd (upd H18 z1 (.lst [V.int 0])) z2 (.lst ((wk n (res farS n ws) ws).map V.int ++ [V.int 0])) = H19 at fx
    clear fx18 hK18 hK16 hK15
    -- the values
    have A0 : Vls K H19 [.ref aF, .ref aL] := fun v hv => by
      rcases List.mem_cons.mp hv with e | hv
      · exact .inr ⟨aF, _, e, fx.f, by omega⟩
      · rw [List.mem_singleton] at hv
        exact .inr ⟨aL, _, hv, fx.l, by omega⟩
    refine ⟨.ref aF, rfl, .ref aL, rfl, .ref aF, rfl, aF, _, rfl, .inr fx.f, fun v1 nv1 => ?_⟩
    have A1 : Vls K (upd H19 v1 (.lst ((res farS n ws).map V.int))) ([.ref aF, .ref aL] ++ [.ref v1]) := (A0.sm fx.tb (same_upd nv1)).snoc (.inl (.inr (.inr ⟨_, _, rfl, upd_same⟩)))
    have fx1 := fx.sm (same_upd (o := .lst ((res farS n ws).map V.int)) nv1)
    refine ⟨.ref aF, rfl, 1, rfl, noPart ?_⟩
    refine slI (xs := res farS n ws) fx1.f fun H20 v2 s20 hv2 => ?_
    have fx2 := fx1.sm s20
    have A2 := (A1.sm fx1.tb s20).snT hv2 (Nat.le_trans (cutI_len _ _ _) (by omega))
    refine ⟨.ref aF, rfl, aF, _, rfl, fx2.f, fun v3 nv3 => ?_⟩
    have fx3 := fx2.sm (same_upd (o := .tup ((res farS n ws).map V.int).reverse) nv3)
    have A3 := (A2.sm fx2.tb (same_upd (o := .tup ((res farS n ws).map V.int).reverse) nv3)).snT (b := v3) (xs := (res farS n ws).reverse) (.inl (.inl (by rw [upd_same, List.map_reverse]))) (by rw [List.length_reverse]; omega)
    refine ⟨.ref aF, rfl, by show 1 ≤ sizeLine; rw [sizeLine_eq]; decide, fun t4 nt4 => ?_⟩
    have s4' : Same _ (upd (upd H20 v3 (.tup ((res farS n ws).map V.int).reverse)) t4 (.tup [V.int 0])) := same_upd nt4
    refine catI (xs := res farS n ws) (ys := [0]) (fx3.sm s4').f (.inl (.inl upd_same)) (by show _ + 1 ≤ _; omega) fun H21 v4 s21 hv4 => ?_
    have s21' := s4'.trans s21
    have fx4 := fx3.sm s21'
    have A4 := (A3.sm fx3.tb s21').snT hv4 (by rw [List.length_append]; show _ + 1 ≤ _; omega)
    refine ⟨Nat.zero_le _, fun v5 nv5 => ?_⟩
    have fx5 := fx4.sm (same_upd (o := .tup []) nv5)
    have A5 := (A4.sm fx4.tb (same_upd (o := .tup []) nv5)).snT (b := v5) (xs := []) (.inl (.inl upd_same)) (Nat.zero_le _)
    refine ⟨.ref aP, rfl, aP, _, rfl, .inl ⟨fx5.p, fun v6 nv6 => ?_⟩⟩
    have A5b := (A5.snoc (v := .non) (.inl (.inl rfl))).snoc (v := .int 3) (.inl (.inr (.inl ⟨3, rfl⟩)))
    have fx6 := fx5.sm (same_upd (o := .tup (ps.map V.int)) nv6)
    have A6 := (A5b.sm fx5.tb (same_upd (o := .tup (ps.map V.int)) nv6)).snT (b := v6) (xs := ps) (.inl (.inl upd_same)) (by omega)
    refine ⟨.int n, rfl, by show 1 ≤ sizeLine; rw [sizeLine_eq]; decide, fun t7 nt7 => ?_⟩
    have fx7 := fx6.sm (same_upd (o := .tup [.int n]) nt7)
    have A7 := A6.sm fx6.tb (same_upd (o := .tup [.int n]) nt7)
    refine ⟨.ref aF, rfl, .ref aF, _, rfl, .inr ⟨_, fx7.f, rfl⟩, ?_⟩
    refine repI (x := n) (m := ((res farS n ws).map V.int).length) (.inl (.inl upd_same)) (by rw [List.length_map]; omega) fun H22 v7 s22 hv7 => ?_
    have fx8 := fx7.sm s22
    have A8 := (A7.sm fx7.tb s22).snT hv7 (by rw [List.length_replicate, List.length_map]; omega)
    refine ⟨by show 11 ≤ sizeLine; rw [sizeLine_eq]; decide, fun vL nvL => ?_⟩
    have A9 := A8.sm fx8.tb (same_upd (o := .lst [.ref aF, .ref aL, .ref v1, .ref v2, .ref v3, .ref v4, .ref v5, .non, .int 3, .ref v6, .ref v7]) nvL)
    have hF : (((res farS n ws).map V.int).length : Int).toNat = ws.length := by rw [List.length_map, Int.toNat_natCast, lenF]
    -- for k in range(len(far))
    refine ⟨.ref aF, rfl, .ref aF, _, rfl, .inr ⟨_, (fx8.sm (same_upd nvL)).f, rfl⟩, _, rfl, by rw [List.length_map]; omega, by rw [List.length_map]; omega, for_range (fun i σ H1 => ∃ y7 vals, σ = [some (.ref sc), some (.ref r), some (.int n), some (.ref aW), some (.ref aP), some (.ref aL), some (.ref aF), y7, some (.ref DK), some (.int (least n ws ps)), some (.ref vL), none, none, none] ∧
      Same H22 H1 ∧ H1 vL = some (.lst vals) ∧ Vls K H1 vals ∧ vals.length ≤ 11 + 2 * i) ⟨none, _, rfl, same_upd nvL, upd_same, A9, Nat.le_refl _⟩ ?_ ?_⟩
    · rintro i σ H1 hi ⟨y7, vals, rfl, sm1, hL1, AL1, hlen1⟩
      rw [hF] at hi
      rw [Int.zero_add]
      have f1 := fx8.sm sm1
      have hi1 : i < (res farS n ws).length := by omega
      obtain ⟨zp, hzp⟩ := at_prev hi1
      -- append(far[:k] + (far[k - 1],) + far[k + 1:])
      refine ⟨.ref vL, rfl, .inl ⟨rfl, _, SqL.of hL1⟩, .ref aF, rfl, noPart ⟨.int (i : Int), rfl, (i : Int), rfl, ?_⟩⟩
      refine slI (xs := res farS n ws) f1.f fun Ha b1 sa h1 => ?_
      refine ⟨.ref aF, rfl, .int (i : Int), rfl, (i : Int), 1, rfl, rfl, aF, _, _, .int zp, rfl, rfl, (f1.sm sa).f, hzp, by show 1 ≤ sizeLine; rw [sizeLine_eq]; decide, fun t nt => ?_⟩
      have st := same_upd (o := .tup [V.int zp]) nt
      refine catI (ys := [zp]) (sameT st h1) (.inl (.inl upd_same)) (by have := cutI_len (res farS n ws) none (some (i : Int)); show _ + 1 ≤ _; omega) fun Hb b2 sb h2 => ?_
      have sab := sa.trans (st.trans sb)
      refine ⟨.ref aF, rfl, .int (i : Int), rfl, (i : Int), 1, rfl, rfl, _, rfl, noPart ?_⟩
      refine slI (xs := res farS n ws) (f1.sm sab).f fun Hc b3 sc3 h3 => ?_
      have lc1 := cutI_len (res farS n ws) none (some (i : Int))
      have lc2 := cutI_len (res farS n ws) (some ((i : Int) + 1)) none
      refine catI (sameT sc3 h2) h3 (by rw [List.length_append]; show _ + 1 + _ ≤ _; omega) fun Hd b4 sd h4 => ?_
      have sad := sab.trans (sc3.trans sd)
      have hLd := sad _ _ hL1
      refine ⟨vL, vals, .ref b4, rfl, rfl, hLd, by rw [sizeLine_eq]; omega, ?_⟩
      have AL2 : Vls K (upd Hd vL (.lst (vals ++ [.ref b4]))) (vals ++ [.ref b4]) := fun v hv => Vl.wr (((AL1.sm f1.tb sad).snT h4 (by rw [List.length_append, List.length_append]; show _ + 1 + _ ≤ _; omega)) v hv) hLd
      have sm2 : Same H22 (upd Hd vL (.lst (vals ++ [.ref b4]))) := fun b o hb => by
        rw [upd_ne (ne_of_none hb nvL)]
        exact sad b o (sm1 b o hb)
      have hL2 : (upd Hd vL (.lst (vals ++ [.ref b4]))) vL = some (.lst (vals ++ [.ref b4])) := upd_same
      have f2 := fx8.sm sm2
      -- append(tuple([..]))
      refine ⟨.ref vL, rfl, .inl ⟨rfl, _, SqL.of hL2⟩, .ref aF, rfl, .ref aF, _, rfl, .inr ⟨_, f2.f, rfl⟩, _, rfl, by rw [List.length_map]; omega, by rw [List.length_map]; omega, fun DJ nDJ => lc_range (fun j H3 => Same (upd Hd vL (.lst (vals ++ [.ref b4]))) H3 ∧ ∃ l : List Int, H3 DJ = some (.lst (l.map V.int)) ∧ l.length = j) ⟨same_upd nDJ, [], upd_same, rfl⟩ ?_ ?_⟩
      · rintro j H3 hj ⟨sm3, l, hD, hlj⟩
        rw [hF] at hj
        rw [Int.zero_add]
        have hj1 : j < (res farS n ws).length := by omega
        have fin : ∀ (z0 : Int) (Hz : Hp), Same H3 Hz → ∃ acc, Hz DJ = some (.lst acc) ∧ acc.length < sizeLine ∧ Same (upd Hd vL (.lst (vals ++ [.ref b4]))) (upd Hz DJ (.lst (acc ++ [V.int z0]))) ∧ ∃ l : List Int, (upd Hz DJ (.lst (acc ++ [V.int z0]))) DJ = some (.lst (l.map V.int)) ∧ l.length = j + 1 := fun z0 Hz sz => by
          refine ⟨_, sz _ _ hD, ?_, fun b o hb => ?_, l ++ [z0], ?_, ?_⟩
          · rw [List.length_map, sizeLine_eq]
            omega
          · rw [upd_ne (ne_of_none hb nDJ)]
            exact sz b o (sm3 b o hb)
          · rw [upd_same, List.map_append]
            rfl
          · rw [List.length_append, hlj]
            rfl
        obtain ⟨bb, hbb⟩ : ∃ bb, V.bl (if true = true then !inV (.int (j : Int)) [.int (i : Int), .int 0] else inV (.int (j : Int)) [.int (i : Int), .int 0]) = V.bl bb := ⟨_, rfl⟩
        refine ⟨rfl, .int (j : Int), rfl, .int (i : Int), rfl, by show 2 ≤ sizeLine; rw [sizeLine_eq]; decide, fun z nz => ⟨z, [.int (i : Int), .int 0], rfl, .inl (SqL.of upd_same), rfl, rfl, bb, hbb, ?_⟩⟩
        have sz := same_upd (o := .lst [.int (i : Int), .int 0]) nz
        have ff := (f2.sm (sm3.trans sz)).f
        cases bb with
        | true => exact iteT ⟨.ref aF, rfl, .int (j : Int), rfl, aF, _, _, .int _, rfl, rfl, ff, at_int hj1, fin _ _ sz⟩
        | false =>
          refine iteF ⟨.int (j : Int), rfl, .int (i : Int), rfl, (j : Int), (i : Int), rfl, rfl, decide ((j : Int) = (i : Int)), rfl, ?_⟩
          cases hd : decide ((j : Int) = (i : Int)) with
          | true => exact iteT ⟨.ref aF, rfl, aF, _, 0, .int _, rfl, rfl, ff, at_int (j := 0) (by omega), fin _ _ sz⟩
          | false => exact iteF ⟨.ref aF, rfl, .int (i : Int), rfl, aF, _, _, .int _, rfl, rfl, ff, at_int hi1, fin _ _ sz⟩
      · rintro H3 ⟨sm3, l, hD, hlj⟩
        rw [hF] at hlj
        refine ⟨DJ, _, rfl, .inl ⟨SqL.of hD, fun v nv => ?_⟩⟩
        have s3 := sm3.trans (same_upd (o := .tup (l.map V.int)) nv)
        have hL3 := s3 _ _ hL2
        refine ⟨vL, _, .ref v, rfl, rfl, hL3, by rw [List.length_append, sizeLine_eq]; show _ + 1 < _; omega, ?_⟩
        refine ⟨_, _, rfl, fun b o hb => ?_, upd_same, fun x hx => Vl.wr (((AL2.sm f2.tb s3).snT (b := v) (xs := l) (.inl (.inl upd_same)) (by omega)) x hx) hL3, ?_⟩
        · rw [upd_ne (ne_of_none hb nvL)]
          exact s3 b o (sm2 b o hb)
        · rw [List.length_append, List.length_append]
          show vals.length + 1 + 1 ≤ _
          omega
    · rintro σ H24 ⟨y7, vals, rfl, sm24, hL24, A24, hlen24⟩
      have f24 := fx8.sm sm24
      refine ⟨.ref vL, rfl, vL, rfl, ⟨_, SqL.of hL24⟩, for_list (K := K) (a := vL) (xs := vals) (fun i σ H1 => ∃ y7 y11 y12, σ = [some (.ref sc), some (.ref r), some (.int n), some (.ref aW), some (.ref aP), some (.ref aL), some (.ref aF), y7, some (.ref DK), some (.int (least n ws ps)), some (.ref vL), y11, y12, none] ∧ Ex T H24 H1) ⟨y7, none, none, rfl, .refl f24.tb⟩ ?_ ?_ ?_⟩
      · rintro i σ H1 _ ⟨_, _, _, _, e1⟩
        exact e1.sqL f24.tb (SqL.of hL24)
      · rintro i x σ H1 hx ⟨y7, y11, y12, rfl, e1⟩
        have f1 := f24.ex e1
        rcases (A24 x (List.mem_of_getElem? hx)).ex f24.tb e1 with hno | ⟨b, xs, rfl, hB, hz⟩
        · have hno := Vl.no (K := K) hno
          obtain ⟨ty, hty, hk⟩ := hno
          refine ⟨x, rfl, x, .ty "tuple", ty, .type "tuple", false, rfl, .ty _, hty, hk, false, rfl, iteF ?_⟩
          refine ⟨.bl false, rfl, false, rfl, iteF ?_⟩
          refine ⟨.int n, rfl, .ref aW, rfl, x, rfl, n, aW, ws, x, rfl, h2, h9, f1.w, hl, hok, f1.tb, .inl ⟨⟨ty, hty, hk⟩, fun H5 e5 => ⟨.bl false, rfl, .inr (.inl ⟨false, rfl, fun H6 s6 => ⟨true, rfl, iteF ?_⟩⟩)⟩⟩⟩
          exact ⟨y7, _, _, rfl, (e1.trans e5).up s6⟩
        · refine ⟨.ref b, rfl, .ref b, .ty "tuple", .type "tuple", .type "tuple", true, rfl, .ty _, tyT hB, kit_ty (by decide +kernel), true, rfl, iteT ?_⟩
          refine ⟨.ref b, rfl, b, xs, rfl, hB, fun xs' q1 hp1 hp2 nq1 => ?_⟩
          have sq := same_upd (o := .lst (xs'.map V.int)) nq1
          refine ⟨.ref aP, rfl, .list (xs'.map PyData.int), .list (ps.map PyData.int), .lst (SqL.of upd_same) (dpAll_ints xs'), .lst (sq.seq f1.p) (dpAll_ints ps), shaped_list _, shaped_list _, ?_⟩
          have ee : PyData.eqv (.list (xs'.map PyData.int)) (.list (ps.map PyData.int)) = isSt n ws xs := by
            rw [eqv_lists]
            by_cases hp : xs.Perm (sp n ws)
            · rw [isSt_iff.mpr hp]
              exact decide_eq_true (sorted_uniq ((hp1.trans hp).trans hperm.symm) hp2 hsort)
            · have : isSt n ws xs = false := by
                cases hb : isSt n ws xs with
                | false => rfl
                | true => exact absurd (isSt_iff.mp hb) hp
              rw [this]
              refine decide_eq_false fun z => hp ?_
              rw [z] at hp1
              exact hp1.symm.trans hperm
          rw [ee]
          have f2 := f1.sm sq
          have e2 := e1.up sq
          have hB2 := sameT sq hB
          refine ⟨.bl (isSt n ws xs), rfl, isSt n ws xs, rfl, ?_⟩
          cases hst : isSt n ws xs with
          | false =>
            have hsh : shB n ws xs = false := by
              unfold shB
              rw [hst]
              rfl
            refine iteF ?_
            refine ⟨.int n, rfl, .ref aW, rfl, .ref b, rfl, n, aW, ws, .ref b, rfl, h2, h9, f2.w, hl, hok, f2.tb, .inr ⟨b, xs, rfl, hB2, hz, fun H5 e5 => ⟨.bl false, rfl, .inr (.inl ⟨false, ?_, fun H6 s6 => ⟨true, rfl, iteF ?_⟩⟩)⟩⟩⟩
            · rw [hsh]
              rfl
            · exact ⟨y7, _, _, rfl, (e2.trans e5).up s6⟩
          | true =>
            have lenX := isSt_len hst
            have lenXK := wk_len (n := n) lenX
            refine iteT ?_
            refine ⟨.ref aW, rfl, .ref aW, _, rfl, .inr ⟨_, f2.w, rfl⟩, _, rfl, by rw [List.length_map]; omega, by rw [List.length_map]; omega, fun DX nDX => lc_range (fun j H3 => Same (upd H1 q1 (.lst (xs'.map V.int))) H3 ∧ H3 DX = some (.lst (((wk n xs ws).take j).map V.int))) ⟨same_upd nDX, upd_same⟩ (fun j H3 hj h3 => ?_) (fun H4 h4 => ?_)⟩
            · obtain ⟨sm3, hD⟩ := h3
              rw [hN] at hj
              rw [Int.zero_add]
              have hj1 : j < xs.length := by omega
              refine ⟨rfl, .ref b, rfl, .int (j : Int), rfl, b, _, j, .int (at0 xs j), rfl, rfl, sameT sm3 hB2, at_int hj1, .ref aW, rfl, .int (j : Int), rfl, aW, _, j, .int (at0 ws j), rfl, rfl, sameT sm3 f2.w, at_int hj, _, _, rfl, rfl, .int n, rfl, _, n, rfl, rfl, hn, _, hD, ?_, fun b o hb => ?_, ?_⟩
              · rw [List.length_map, List.length_take, lenXK, sizeLine_eq]
                omega
              · rw [upd_ne (ne_of_none hb nDX)]
                exact sm3 b o hb
              · rw [upd_same, List.take_add_one, wk_get hj1 hj, List.map_append]
                rfl
            obtain ⟨sm4, hD4⟩ := h4
            rw [hN, List.take_of_length_le (by rw [lenXK]; exact Nat.le_refl _)] at hD4
            refine ⟨by show 1 ≤ sizeLine; rw [sizeLine_eq]; decide, fun z1 nz1 => ⟨DX, z1, _, _, rfl, rfl, same_upd nz1 _ _ hD4, upd_same, ?_, fun z2 nz2 => ⟨z2, wk n xs ws ++ [0], rfl, SqL.of (by rw [upd_same, List.map_append]; rfl), by rw [List.length_append]; exact Nat.succ_pos _, fun m hm hle => ⟨.int (least n ws ps), rfl, rfl, ?_⟩⟩⟩⟩
            · rw [List.length_map, lenXK, sizeLine_eq]
              show ws.length + 1 ≤ _
              omega
            have em : m = mxl (wk n xs ws) := Mx.uniq ⟨hm, hle⟩ (mxl_mx _)
            have es : decide (V.int m = V.int (least n ws ps)) = shB n ws xs := by
              unfold shB
              rw [hst, em, Bool.true_and, hW2]
              exact decide_eq_decide.mpr ⟨fun z => V.int.inj z, fun z => congrArg V.int z⟩
            rw [es]
            have s5 := sm4.trans ((same_upd (o := .lst [V.int 0]) nz1).trans (same_upd (o := .lst ((wk n xs ws).map V.int ++ [V.int 0])) nz2))
            have f3 := f2.sm s5
            refine ⟨.int n, rfl, .ref aW, rfl, .ref b, rfl, n, aW, ws, .ref b, rfl, h2, h9, f3.w, hl, hok, f3.tb, .inr ⟨b, xs, rfl, sameT s5 hB2, hz, fun H5 e5 => ⟨.bl (shB n ws xs), rfl, .inr (.inl ⟨shB n ws xs, rfl, fun H6 s6 => ⟨true, rfl, iteF ?_⟩⟩)⟩⟩⟩
            exact ⟨y7, _, _, rfl, ((e2.up s5).trans e5).up s6⟩
      · rintro σ H1 ⟨y7, y11, y12, rfl, e1⟩
        exact q H1
end
end K13
namespace K13
open PySem PySem.Spec PyProof.Rows L2
/-- the end, with the table of each def -/
theorem walk_ofAll {l : PySem.W.OpenLaw} {n k : Nat} {q : Program} {loose : List Str} {XP : (Str → Option Value) → Heap → Prop} {YP : World → Heap → Prop} {d : DefRec} {K : Params → PySem.W.Frag} {CX : World → CXT} {x : Str}
    (hn : l.most = some n) (hn2 : n ≤ sizeLine) (hdf : d.params.defaults = []) (hr : Room k callerA) (hY : ∀ (w : World) (h : Heap), YP w h → (K w.params).In h)
    (F : ∀ (w : World) (mg : Str → Option Value) (fa : Addr) (h : Heap), YP w h → (K w.params).In h → h.Ns mainGlobals mg → mg d.name = some (.ref fa) → (∀ (y : Str) (c P : Addr), ((recsOf q).find? fun e => e.name == y).isSome = true → PySem.W.tabIn (K w.params) y = some (c, P) → PySem.W.CodeHd h c P ∧ h.get? P = some { cls := .none, data := .fields #[] }) → LamX.LawAtS l w (K w.params) (CX w) k n x mg fa h)
    (hCX : ∀ (w : World) (H : Hp) (s : Shared) (e : Value) (s' : Shared), CX w [] H s (fun _ _ _ => False) e s' → False) :
    PySem.W.WalkO q loose XP YP l.row.toRowW d [] (fun f vs => PySem.call f vs) := by
  refine Att.attach_callB hn hdf fun w s₀ s₁ mg mb fa o pm cd doc a vs ns G Y ho hd hcd hmg hobj hints hlen hbits hg => ?_
  have KX := hY w _ Y
  obtain ⟨fd, cs, sp, hT, nT, C, hb, hsp, hF⟩ := F w mg fa _ Y KX G.T.g hmg fun y c P hy ht => by
    cases e : (recsOf q).find? fun e => e.name == y with
    | none => rw [e] at hy; cases hy
    | some d' => exact PySem.W.tab_of G.T KX e ht
  exact LamX.law_callTs KX G.T.g G.T.b G.T.builtins G.T.nolimit hg hT nT C G.T.bmain hobj hints (Nat.le_trans hlen hn2) hr hF hb (fun H hH hS => hsp H a ns hlen hbits hH hS) fun H e s' => hCX w H s₁ e s'
theorem tabB_of {base : Heap} {mg : Str → Option Value} {c P : Addr} (h : LamX.TabB base mg c P) : GxR.TabB base mg c P := ⟨h.code, h.bm, h.gP⟩
/-- what is known of a def's object -/
structure Df (K : PySem.W.Frag) (x : Str) (st : Stmt) (f : Addr) (kV dc pm : Value) (an : Option Addr) (cd ct : Value) : Prop where
  a : PySem.W.nsIn K mainGlobals x = some (some (.ref f))
  l : ∃ (oc : Value) (od : Option Addr) (sl : Array (Option Value)), K.lookup f = some ⟨oc, od, .func (PySem.W.fnOf x x (defArgs st) (defBody st) (defScope st) .none kV dc pm an cd ct), sl⟩
  c : PySem.W.codeIn K cd x = true
  k : PySem.W.keepIn K (.ref f) = true
theorem Df.of {K : PySem.W.Frag} {x : Str} {st : Stmt} {f : Addr} {kV dc pm : Value} {an : Option Addr} {cd ct oc : Value} {od : Option Addr} {sl : Array (Option Value)} (a : PySem.W.nsIn K mainGlobals x = some (some (.ref f))) (l : K.lookup f = some ⟨oc, od, .func (PySem.W.fnOf x x (defArgs st) (defBody st) (defScope st) .none kV dc pm an cd ct), sl⟩)
    (c : PySem.W.codeIn K cd x = true) (k : PySem.W.keepIn K (.ref f) = true) : Df K x st f kV dc pm an cd ct := ⟨a, ⟨_, _, _, l⟩, c, k⟩
theorem tab_mk {K : PySem.W.Frag} {x : Str} {st : Stmt} {f c P : Addr} {kV dc pm : Value} {an : Option Addr} {ct e : Value} {dd : Option Addr} {vs : Array Value} {sl : Array (Option Value)} (d : Df K x st f kV dc pm an (.ref c) ct) (u : K.lookup c = some ⟨e, dd, .fields vs, sl⟩) (v : vs[11]? = some (.ref P)) : PySem.W.tabIn K x = some (c, P) := by
  obtain ⟨oc, od, sl2, l⟩ := d.l
  unfold PySem.W.tabIn
  rw [d.a]
  simp only [l]
  show (match K.lookup c with
        | some ⟨_, _, .fields vs, _⟩ => (match (vs[11]? : Option Value) with
          | some (.ref P) => some (c, P)
          | _ => none)
        | _ => none) = some (c, P)
  simp only [u]
  show (match (vs[11]? : Option Value) with
          | some (.ref P) => some (c, P)
          | _ => none) = some (c, P)
  rw [v]
theorem Df.F {K : PySem.W.Frag} {x : Str} {st : Stmt} {f : Addr} {kV dc pm : Value} {an : Option Addr} {cd ct : Value} (d : Df K x st f kV dc pm an cd ct) : Fun K x x st f (PySem.W.fnOf x x (defArgs st) (defBody st) (defScope st) .none kV dc pm an cd ct) := by
  obtain ⟨oc, od, sl, l⟩ := d.l
  exact fun_mk l d.c d.k
theorem Df.de {K : PySem.W.Frag} {mg : Str → Option Value} {h : Heap} {x : Str} {st : Stmt} {f : Addr} {kV dc pm : Value} {an : Option Addr} {cd ct : Value} {ps : List Str} (d : Df K x st f kV dc pm an cd ct) (X : K.In h) (G : h.Ns mainGlobals mg)
    (b : Binds K (PySem.W.fnOf x x (defArgs st) (defBody st) (defScope st) .none kV dc pm an cd ct) ps []) : De K mg x st ps f (PySem.W.fnOf x x (defArgs st) (defBody st) (defScope st) .none kV dc pm an cd ct) := ⟨d.F, b, PySem.W.mg_of X G d.a⟩
theorem Df.deC {K : PySem.W.Frag} {mg : Str → Option Value} {h : Heap} {x : Str} {st : Stmt} {f c : Addr} {kV dc pm : Value} {an : Option Addr} {ct : Value} {ps : List Str} (d : Df K x st f kV dc pm an (.ref c) ct) (X : K.In h) (G : h.Ns mainGlobals mg)
    (b : Binds K (PySem.W.fnOf x x (defArgs st) (defBody st) (defScope st) .none kV dc pm an (.ref c) ct) ps []) : DeC K mg x st ps f (PySem.W.fnOf x x (defArgs st) (defBody st) (defScope st) .none kV dc pm an (.ref c) ct) c := by
  obtain ⟨oc, od, sl, l⟩ := d.l
  exact ⟨⟨oc, od, kV, dc, pm, an, ct, sl, rfl, l, d.c⟩, d.k, b, PySem.W.mg_of X G d.a⟩
theorem all_mk {l : PySem.W.OpenLaw} {w : World} {K : PySem.W.Frag} {h : Heap} {mg : Str → Option Value} {fa fII fNS fAW fNW fSO fSE fBL fBF fIS fND fWI fSW fWO fLW fSH fLT fLP fLA fLS fLX fLG fLL fL0 cAW PAW cIS PIS cBL PBL cBF PBF cWO PWO : Addr} (X : K.In h) (G : h.Ns mainGlobals mg) (hfa : mg "law" = some (.ref fa)) {R : Str → Prop} (tabs : ∀ (y : Str) (c P : Addr), R y → PySem.W.tabIn K y = some (c, P) → PySem.W.CodeHd h c P ∧ h.get? P = some { cls := .none, data := .fields #[] })
    {anII anNS anAW anNW anSO anSE anBL anBF anIS anND anWI anSW anWO anLW anSH anLT anLP anLA anLS anLX anLG anLL anL0 : Option Addr} {kVII dcII pmII ctII cdII kVNS dcNS pmNS ctNS cdNS kVAW dcAW pmAW ctAW kVNW dcNW pmNW ctNW cdNW kVSO dcSO pmSO ctSO cdSO kVSE dcSE pmSE ctSE cdSE kVBL dcBL pmBL ctBL kVBF dcBF pmBF ctBF kVIS dcIS pmIS ctIS kVND dcND pmND ctND cdND kVWI dcWI pmWI ctWI cdWI kVSW dcSW pmSW ctSW cdSW kVWO dcWO pmWO ctWO kVLW dcLW pmLW ctLW cdLW kVSH dcSH pmSH ctSH cdSH kVLT dcLT pmLT ctLT cdLT kVLP dcLP pmLP ctLP cdLP kVLA dcLA pmLA ctLA cdLA kVLS dcLS pmLS ctLS cdLS kVLX dcLX pmLX ctLX cdLX kVLG dcLG pmLG ctLG cdLG kVLL dcLL pmLL ctLL cdLL kVL0 dcL0 pmL0 ctL0 cdL0 : Value} {tLo tHi : Tok}
    (dII : Df K "is_in" sIsIn fII kVII dcII pmII anII cdII ctII)
    (dNS : Df K "need_size" sNeedSize fNS kVNS dcNS pmNS anNS cdNS ctNS)
    (dAW : Df K "are_wishes" sAreWishes fAW kVAW dcAW pmAW anAW (.ref cAW) ctAW)
    (dNW : Df K "need_wishes" sNeedWishes fNW kVNW dcNW pmNW anNW cdNW ctNW)
    (dSO : Df K "spots_of" sSpotsOf fSO kVSO dcSO pmSO anSO cdSO ctSO)
    (dSE : Df K "settled" sSettled fSE kVSE dcSE pmSE anSE cdSE ctSE)
    (dBL : Df K "by_last" sByLast fBL kVBL dcBL pmBL anBL (.ref cBL) ctBL)
    (dBF : Df K "by_farthest" sByFar fBF kVBF dcBF pmBF anBF (.ref cBF) ctBF)
    (dIS : Df K "is_stand" sIsStand fIS kVIS dcIS pmIS anIS (.ref cIS) ctIS)
    (dND : Df K "need_stand" sNeedStand fND kVND dcND pmND anND cdND ctND)
    (dWI : Df K "walks_in" sWalksIn fWI kVWI dcWI pmWI anWI cdWI ctWI)
    (dSW : Df K "stand_walks" sStandWalks fSW kVSW dcSW pmSW anSW cdSW ctSW)
    (dWO : Df K "worst_of" sWorstOf fWO kVWO dcWO pmWO anWO (.ref cWO) ctWO)
    (dLW : Df K "least_worst" sLeastWorst fLW kVLW dcLW pmLW anLW cdLW ctLW)
    (dSH : Df K "shows_least_worst" sShows fSH kVSH dcSH pmSH anSH cdSH ctSH)
    (dLT : Df K "_law_taken" sTaken fLT kVLT dcLT pmLT anLT cdLT ctLT)
    (dLP : Df K "_law_pick" sPick fLP kVLP dcLP pmLP anLP cdLP ctLP)
    (dLA : Df K "_law_alike" sAlike fLA kVLA dcLA pmLA anLA cdLA ctLA)
    (dLS : Df K "_law_spots" sLSpots fLS kVLS dcLS pmLS anLS cdLS ctLS)
    (dLX : Df K "_law_wishes" sLWishes fLX kVLX dcLX pmLX anLX cdLX ctLX)
    (dLG : Df K "_law_settled" sLSettled fLG kVLG dcLG pmLG anLG cdLG ctLG)
    (dLL : Df K "_law_least" sLeast fLL kVLL dcLL pmLL anLL cdLL ctLL)
    (dL0 : Df K "law" sLaw fL0 kVL0 dcL0 pmL0 anL0 cdL0 ctL0)
    (z0 : PySem.W.nsIn K mainGlobals "isinstance" = some none) (z1 : PySem.W.nsIn K mainGlobals "int" = some none) (z2 : PySem.W.nsIn K mainGlobals "bool" = some none) (z3 : PySem.W.nsIn K mainGlobals "tuple" = some none) (z4 : PySem.W.nsIn K mainGlobals "list" = some none) (z5 : PySem.W.nsIn K mainGlobals "len" = some none) (z6 : PySem.W.nsIn K mainGlobals "all" = some none) (z7 : PySem.W.nsIn K mainGlobals "sorted" = some none) (z8 : PySem.W.nsIn K mainGlobals "enumerate" = some none) (z9 : PySem.W.nsIn K mainGlobals "zip" = some none) (z10 : PySem.W.nsIn K mainGlobals "max" = some none) (z11 : PySem.W.nsIn K mainGlobals "min" = some none) (z12 : PySem.W.nsIn K mainGlobals "range" = some none) (z13 : PySem.W.nsIn K mainGlobals "dict" = some none) (z14 : PySem.W.nsIn K mainGlobals "str" = some none)
    (zLo : PySem.W.nsIn K mainGlobals "LEAST_SIZE" = some (some (.int 2 tLo))) (zHi : PySem.W.nsIn K mainGlobals "MOST_SIZE" = some (some (.int 9 tHi)))
    {eAW : Value} {ddAW : Option Addr} {vsAW : Array Value} {slAW : Array (Option Value)} (uAW : K.lookup cAW = some ⟨eAW, ddAW, .fields vsAW, slAW⟩) (vAW : vsAW[11]? = some (.ref PAW)) (nAW : K.lookup PAW = none) (rAW : R "are_wishes")
    {eIS : Value} {ddIS : Option Addr} {vsIS : Array Value} {slIS : Array (Option Value)} (uIS : K.lookup cIS = some ⟨eIS, ddIS, .fields vsIS, slIS⟩) (vIS : vsIS[11]? = some (.ref PIS)) (nIS : K.lookup PIS = none) (rIS : R "is_stand")
    {eBL : Value} {ddBL : Option Addr} {vsBL : Array Value} {slBL : Array (Option Value)} (uBL : K.lookup cBL = some ⟨eBL, ddBL, .fields vsBL, slBL⟩) (vBL : vsBL[11]? = some (.ref PBL)) (nBL : K.lookup PBL = none) (rBL : R "by_last")
    {eBF : Value} {ddBF : Option Addr} {vsBF : Array Value} {slBF : Array (Option Value)} (uBF : K.lookup cBF = some ⟨eBF, ddBF, .fields vsBF, slBF⟩) (vBF : vsBF[11]? = some (.ref PBF)) (nBF : K.lookup PBF = none) (rBF : R "by_farthest")
    {eWO : Value} {ddWO : Option Addr} {vsWO : Array Value} {slWO : Array (Option Value)} (uWO : K.lookup cWO = some ⟨eWO, ddWO, .fields vsWO, slWO⟩) (vWO : vsWO[11]? = some (.ref PWO)) (nWO : K.lookup PWO = none) (rWO : R "worst_of")
    (ap : Tbs.Apart ⟨PAW, PIS, PBL, PBF, PWO⟩) : LamX.LawAtS l w K CX0 9 63 "_law_script" mg fa h := by
  have e := hfa.symm.trans (PySem.W.mg_of X G dL0.a)
  cases e
  have tAW := tabs _ _ _ rAW (tab_mk dAW uAW vAW)
  have tIS := tabs _ _ _ rIS (tab_mk dIS uIS vIS)
  have tBL := tabs _ _ _ rBL (tab_mk dBL uBL vBL)
  have tBF := tabs _ _ _ rBF (tab_mk dBF uBF vBF)
  have tWO := tabs _ _ _ rWO (tab_mk dWO uWO vWO)
  have B : ∀ {y : Str}, PySem.W.nsIn K mainGlobals y = some none → mg y = none := fun z => PySem.W.mg_none_of X G z
  have T : Tx mg := ⟨B z0, B z1, B z2, B z3, B z4, B z5, B z6, B z7, B z8, B z9, B z10, B z11, B z12, B z13, B z14, ⟨tLo, PySem.W.mg_of X G zLo⟩, ⟨tHi, PySem.W.mg_of X G zHi⟩⟩
  have DII := dII.de (mg := mg) X G (dII.F.binds (ps := ["value", "least", "most"]) fun _ _ _ _ _ _ us hl => match us, hl with | [_, _, _], _ => rfl)
  have DNS := dNS.de (mg := mg) X G (dNS.F.binds (ps := ["size"]) fun _ _ _ _ _ _ us hl => match us, hl with | [_], _ => rfl)
  have DAW := dAW.deC (mg := mg) X G (dAW.F.binds (ps := ["size", "value"]) fun _ _ _ _ _ _ us hl => match us, hl with | [_, _], _ => rfl)
  have DNW := dNW.de (mg := mg) X G (dNW.F.binds (ps := ["size", "wishes"]) fun _ _ _ _ _ _ us hl => match us, hl with | [_, _], _ => rfl)
  have DSO := dSO.de (mg := mg) X G (dSO.F.binds (ps := ["size", "wishes"]) fun _ _ _ _ _ _ us hl => match us, hl with | [_, _], _ => rfl)
  have DSE := dSE.de (mg := mg) X G (dSE.F.binds (ps := ["size", "wishes", "stays"]) fun _ _ _ _ _ _ us hl => match us, hl with | [_, _, _], _ => rfl)
  have DBL := dBL.deC (mg := mg) X G (dBL.F.binds (ps := ["size", "wishes"]) fun _ _ _ _ _ _ us hl => match us, hl with | [_, _], _ => rfl)
  have DBF := dBF.deC (mg := mg) X G (dBF.F.binds (ps := ["size", "wishes"]) fun _ _ _ _ _ _ us hl => match us, hl with | [_, _], _ => rfl)
  have DIS := dIS.deC (mg := mg) X G (dIS.F.binds (ps := ["size", "wishes", "value"]) fun _ _ _ _ _ _ us hl => match us, hl with | [_, _, _], _ => rfl)
  have DND := dND.de (mg := mg) X G (dND.F.binds (ps := ["size", "wishes", "stand"]) fun _ _ _ _ _ _ us hl => match us, hl with | [_, _, _], _ => rfl)
  have DWI := dWI.de (mg := mg) X G (dWI.F.binds (ps := ["size", "wishes", "stand"]) fun _ _ _ _ _ _ us hl => match us, hl with | [_, _, _], _ => rfl)
  have DSW := dSW.de (mg := mg) X G (dSW.F.binds (ps := ["size", "wishes", "stand"]) fun _ _ _ _ _ _ us hl => match us, hl with | [_, _, _], _ => rfl)
  have DWO := dWO.deC (mg := mg) X G (dWO.F.binds (ps := ["size", "wishes"]) fun _ _ _ _ _ _ us hl => match us, hl with | [_, _], _ => rfl)
  have DLW := dLW.de (mg := mg) X G (dLW.F.binds (ps := ["size", "wishes"]) fun _ _ _ _ _ _ us hl => match us, hl with | [_, _], _ => rfl)
  have DSH := dSH.de (mg := mg) X G (dSH.F.binds (ps := ["size", "wishes", "value"]) fun _ _ _ _ _ _ us hl => match us, hl with | [_, _, _], _ => rfl)
  have DLT := dLT.de (mg := mg) X G (dLT.F.binds (ps := ["_law_row", "_law_many"]) fun _ _ _ _ _ _ us hl => match us, hl with | [_, _], _ => rfl)
  have DLP := dLP.de (mg := mg) X G (dLP.F.binds (ps := ["_law_row", "_law_things"]) fun _ _ _ _ _ _ us hl => match us, hl with | [_, _], _ => rfl)
  have DLA := dLA.de (mg := mg) X G (dLA.F.binds (ps := ["_law_found", "_law_due"]) fun _ _ _ _ _ _ us hl => match us, hl with | [_, _], _ => rfl)
  have DLS := dLS.de (mg := mg) X G (dLS.F.binds (ps := ["_law_size", "_law_wishes_here"]) fun _ _ _ _ _ _ us hl => match us, hl with | [_, _], _ => rfl)
  have DLX := dLX.de (mg := mg) X G (dLX.F.binds (ps := ["_law_row", "_law_size"]) fun _ _ _ _ _ _ us hl => match us, hl with | [_, _], _ => rfl)
  have DLG := dLG.de (mg := mg) X G (dLG.F.binds (ps := ["_law_size", "_law_wishes_here", "_law_is_last"]) fun _ _ _ _ _ _ us hl => match us, hl with | [_, _, _], _ => rfl)
  have DLL := dLL.de (mg := mg) X G (dLL.F.binds (ps := ["_law_size", "_law_wishes_here", "_law_places"]) fun _ _ _ _ _ _ us hl => match us, hl with | [_, _, _], _ => rfl)
  have DL0 := dL0.de (mg := mg) X G (dL0.F.binds (ps := ["_law_script"]) fun _ _ _ _ _ _ us hl => match us, hl with | [_], _ => rfl)
  refine ⟨PySem.W.fnOf "law" "law" (defArgs sLaw) (defBody sLaw) (defScope sLaw) .none kVL0 dcL0 pmL0 anL0 cdL0 ctL0, [(cAW, PAW), (cIS, PIS), (cBL, PBL), (cBF, PBF), (cWO, PWO)], spLaw ⟨PAW, PIS, PBL, PBF, PWO⟩ K, ?_, ?_, ?_, fun s v => .of_eq rfl, ?_, ?_⟩
  · intro p hp
    simp only [List.mem_cons, List.not_mem_nil, or_false] at hp
    rcases hp with rfl | rfl | rfl | rfl | rfl
    · exact tAW.2
    · exact tIS.2
    · exact tBL.2
    · exact tBF.2
    · exact tWO.2
  · intro p hp
    simp only [List.mem_cons, List.not_mem_nil, or_false] at hp
    rcases hp with rfl | rfl | rfl | rfl | rfl
    · exact nAW
    · exact nIS
    · exact nBL
    · exact nBF
    · exact nWO
  · intro p hp
    simp only [List.mem_cons, List.not_mem_nil, or_false] at hp
    rcases hp with rfl | rfl | rfl | rfl | rfl
    · exact tAW.1
    · exact tIS.1
    · exact tBL.1
    · exact tBF.1
    · exact tWO.1
  · intro H a ns _ _ hT hS
    have e1 := hT (cAW, PAW) (by simp)
    have e2 := hT (cIS, PIS) (by simp)
    have e3 := hT (cBL, PBL) (by simp)
    have e4 := hT (cBF, PBF) (by simp)
    have e5 := hT (cWO, PWO) (by simp)
    exact ⟨a, ns, rfl, hS, ⟨⟨#[], e1, True.intro⟩, ⟨#[], e2, True.intro⟩, .nil e3, .nil e4, .nil e5⟩, fun _ => rfl⟩
  · intro base _ _ TB
    have b1 := TB (cAW, PAW) (by simp)
    have b2 := TB (cIS, PIS) (by simp)
    have b3 := TB (cBL, PBL) (by simp)
    have b4 := TB (cBF, PBF) (by simp)
    have b5 := TB (cWO, PWO) (by simp)
    have GII := ok_isin (P := l.prog) (w := w) (base := base) DII T
    have GNS := ok_needsize (P := l.prog) (w := w) (base := base) DNS DII T
    have GAW := ok_arewishes (P := l.prog) (w := w) (base := base) DAW DII T ap b1
    have GNW := ok_needwishes (P := l.prog) (w := w) (base := base) DNW DNS DAW.g DAW.kp DAW.b GNS GAW
    have GSO := ok_spots (P := l.prog) (w := w) (base := base) DSO
    have GSE := ok_settled (P := l.prog) (w := w) (base := base) DSE T
    have GBL := ok_bylast (P := l.prog) (w := w) (base := base) DBL ap b3 T DNW DSE GNW GSE
    have GBF := ok_byfar (P := l.prog) (w := w) (base := base) DBF ap b4 T DNW DSE GNW GSE
    have GWI := ok_walksin (P := l.prog) (w := w) (base := base) DWI T
    have GIS := ok_isstand (P := l.prog) (w := w) (base := base) DIS ap b2 T DII DSO GSO
    have GND := ok_needstand (P := l.prog) (w := w) (base := base) DND DNW DIS.g DIS.kp DIS.b GNW GIS
    have GSW := ok_standwalks (P := l.prog) (w := w) (base := base) DSW T DND DWI GND GWI
    have GWO := ok_worst (P := l.prog) (w := w) (base := base) DWO ap b5 T DWI DSE GWI GSE
    have GLW := ok_leastworst (P := l.prog) (w := w) (base := base) DLW DNW DWO.g DWO.kp DWO.b GNW GWO
    have GSH := ok_shows (P := l.prog) (w := w) (base := base) DSH T DNW DIS.g DIS.kp DIS.b DWI DWO.g DWO.kp DWO.b GNW GIS GWI GWO
    have GLT := ok_taken (P := l.prog) (w := w) (base := base) DLT T
    have GLP := ok_pick (P := l.prog) (w := w) (base := base) DLP T DLT GLT
    have GLA := ok_alike (P := l.prog) (w := w) (base := base) DLA T
    have GLS := ok_lspots (P := l.prog) (w := w) (base := base) DLS
    have GLX := ok_lwishes (P := l.prog) (w := w) (base := base) DLX T DLT DLP GLT GLP
    have GLG := ok_lsettled (P := l.prog) (w := w) (base := base) DLG T
    have GLL := ok_lleast (P := l.prog) (w := w) (base := base) DLL T 7
    exact ok_law DL0 T ap DLT.cal GLT DLX.cal GLX DLS.cal GLS DLG.cal GLG DLA.cal GLA DLL.cal GLL DBL.cal GBL DBF.cal GBF DSW.cal GSW DLW.cal GLW DSH.cal GSH
end K13
open PySem PySem.W PyProof.Rows
set_option maxRecDepth 100000 in
set_option maxHeartbeats 0 in
theorem PySem.Challenge.cw_parksums_k13_whole_stands_holds : PySem.Challenge.rw_parksums_k13_whole_stands.Holds := by
  w_on; o_law; k_head; (case hw => w_witness2)
  k_fill
  refine K13.walk_ofAll (l := PySem.Challenge.rw_parksums_k13_whole_stands) (n := 63) (k := 9) (x := "_law_script") (CX := fun _ => L2.CX0) rfl (by decide) rfl ⟨rfl, by decide, by decide⟩ (fun w h Y => by first | exact PySem.W.km_in_of Y | exact PySem.W.kIn_of Y) ?F (fun _ _ _ _ _ z => z)
  case F =>
    intro w mg fa h _ KX G hmg tabs
    refine' K13.all_mk KX G hmg tabs ?dII ?dNS ?dAW ?dNW ?dSO ?dSE ?dBL ?dBF ?dIS ?dND ?dWI ?dSW ?dWO ?dLW ?dSH ?dLT ?dLP ?dLA ?dLS ?dLX ?dLG ?dLL ?dL0 ?z0 ?z1 ?z2 ?z3 ?z4 ?z5 ?z6 ?z7 ?z8 ?z9 ?z10 ?z11 ?z12 ?z13 ?z14 ?zLo ?zHi ?uAW ?vAW ?nAW ?rAW ?uIS ?vIS ?nIS ?rIS ?uBL ?vBL ?nBL ?rBL ?uBF ?vBF ?nBF ?rBF ?uWO ?vWO ?nWO ?rWO ?ap
    (case dII => refine' K13.Df.of ?a ?l ?c ?k; (case a => k_is); (case l => k_is); (case c => k_is); (case k => k_is))
    (case dNS => refine' K13.Df.of ?a ?l ?c ?k; (case a => k_is); (case l => k_is); (case c => k_is); (case k => k_is))
    (case dAW => refine' K13.Df.of ?a ?l ?c ?k; (case a => k_is); (case l => k_is); (case c => k_is); (case k => k_is))
    (case dNW => refine' K13.Df.of ?a ?l ?c ?k; (case a => k_is); (case l => k_is); (case c => k_is); (case k => k_is))
    (case dSO => refine' K13.Df.of ?a ?l ?c ?k; (case a => k_is); (case l => k_is); (case c => k_is); (case k => k_is))
    (case dSE => refine' K13.Df.of ?a ?l ?c ?k; (case a => k_is); (case l => k_is); (case c => k_is); (case k => k_is))
    (case dBL => refine' K13.Df.of ?a ?l ?c ?k; (case a => k_is); (case l => k_is); (case c => k_is); (case k => k_is))
    (case dBF => refine' K13.Df.of ?a ?l ?c ?k; (case a => k_is); (case l => k_is); (case c => k_is); (case k => k_is))
    (case dIS => refine' K13.Df.of ?a ?l ?c ?k; (case a => k_is); (case l => k_is); (case c => k_is); (case k => k_is))
    (case dND => refine' K13.Df.of ?a ?l ?c ?k; (case a => k_is); (case l => k_is); (case c => k_is); (case k => k_is))
    (case dWI => refine' K13.Df.of ?a ?l ?c ?k; (case a => k_is); (case l => k_is); (case c => k_is); (case k => k_is))
    (case dSW => refine' K13.Df.of ?a ?l ?c ?k; (case a => k_is); (case l => k_is); (case c => k_is); (case k => k_is))
    (case dWO => refine' K13.Df.of ?a ?l ?c ?k; (case a => k_is); (case l => k_is); (case c => k_is); (case k => k_is))
    (case dLW => refine' K13.Df.of ?a ?l ?c ?k; (case a => k_is); (case l => k_is); (case c => k_is); (case k => k_is))
    (case dSH => refine' K13.Df.of ?a ?l ?c ?k; (case a => k_is); (case l => k_is); (case c => k_is); (case k => k_is))
    (case dLT => refine' K13.Df.of ?a ?l ?c ?k; (case a => k_is); (case l => k_is); (case c => k_is); (case k => k_is))
    (case dLP => refine' K13.Df.of ?a ?l ?c ?k; (case a => k_is); (case l => k_is); (case c => k_is); (case k => k_is))
    (case dLA => refine' K13.Df.of ?a ?l ?c ?k; (case a => k_is); (case l => k_is); (case c => k_is); (case k => k_is))
    (case dLS => refine' K13.Df.of ?a ?l ?c ?k; (case a => k_is); (case l => k_is); (case c => k_is); (case k => k_is))
    (case dLX => refine' K13.Df.of ?a ?l ?c ?k; (case a => k_is); (case l => k_is); (case c => k_is); (case k => k_is))
    (case dLG => refine' K13.Df.of ?a ?l ?c ?k; (case a => k_is); (case l => k_is); (case c => k_is); (case k => k_is))
    (case dLL => refine' K13.Df.of ?a ?l ?c ?k; (case a => k_is); (case l => k_is); (case c => k_is); (case k => k_is))
    (case dL0 => refine' K13.Df.of ?a ?l ?c ?k; (case a => k_is); (case l => k_is); (case c => k_is); (case k => k_is))
    (case z0 => k_is)
    (case z1 => k_is)
    (case z2 => k_is)
    (case z3 => k_is)
    (case z4 => k_is)
    (case z5 => k_is)
    (case z6 => k_is)
    (case z7 => k_is)
    (case z8 => k_is)
    (case z9 => k_is)
    (case z10 => k_is)
    (case z11 => k_is)
    (case z12 => k_is)
    (case z13 => k_is)
    (case z14 => k_is)
    (case zLo => k_is)
    (case zHi => k_is)
    (case uAW => k_is)
    (case vAW => rfl)
    (case nAW => first | k_is | rfl | kernel_rfl)
    (case rAW => kernel_rfl)
    (case uIS => k_is)
    (case vIS => rfl)
    (case nIS => first | k_is | rfl | kernel_rfl)
    (case rIS => kernel_rfl)
    (case uBL => k_is)
    (case vBL => rfl)
    (case nBL => first | k_is | rfl | kernel_rfl)
    (case rBL => kernel_rfl)
    (case uBF => k_is)
    (case vBF => rfl)
    (case nBF => first | k_is | rfl | kernel_rfl)
    (case rBF => kernel_rfl)
    (case uWO => k_is)
    (case vWO => rfl)
    (case nWO => first | k_is | rfl | kernel_rfl)
    (case rWO => kernel_rfl)
    (case ap => exact ⟨by decide, by decide, by decide, by decide, by decide, by decide, by decide, by decide, by decide, by decide⟩)
