import PyProof.Rows.All
import Wide.All
import OpenK.AllK
import Wide.FinOn
import HandS.ForMost
import HandS.Walk
import HandS.Conv
import HandS.TupLen
import HandS.TupAny
import KE.GoesEnum
import KE.KDictKeyed
import KE.KDictDisplayH
import KE.SortData
import HandS.Style
import HandS.Deep
import HandS.More
import HandS.IsInst
import HandS.Defaults
import HandS.Exc
import HandS.ExcInit
import HandS.TryOnly
import HandS.WordsExc
import HandS.HeadHook2
import PySem.Challenge.RW_passersby_k37_whole_err_papers_hold
import KE.KStateDown
import Lean
import HandS.Head0
import HandS.Head1
import HandS.Head2
import HandS.HeadEnd
import HandS.HeadHook1
set_option Elab.async false
set_option linter.all false
set_option maxRecDepth 100000
set_option maxHeartbeats 0
namespace KM
/-! ### lists -/
theorem nodup_len {α : Type} [DecidableEq α] : ∀ (l D : List α), l.Nodup → (∀ x ∈ l, x ∈ D) → l.length ≤ D.length
  | [], _, _, _ => Nat.zero_le _
  | x :: l, D, hn, hs => by
    obtain ⟨h1, h2⟩ := List.nodup_cons.mp hn
    have hx : x ∈ D := hs x List.mem_cons_self
    have ih := nodup_len l (D.erase x) h2 fun y hy => by
      have hyx : y ≠ x := fun e => h1 (e ▸ hy)
      exact (List.mem_erase_of_ne hyx).mpr (hs y (List.mem_cons_of_mem _ hy))
    rw [List.length_erase_of_mem hx] at ih
    have : 0 < D.length := List.length_pos_of_mem hx
    show l.length + 1 ≤ D.length
    omega
theorem nodup_snoc {α : Type} {l : List α} {x : α} (h : l.Nodup) (hx : x ∉ l) : (l ++ [x]).Nodup := by
  rw [List.nodup_append]
  refine ⟨h, by simp, ?_⟩
  intro a ha b hb e
  simp at hb
  subst hb
  exact hx (e ▸ ha)
theorem mem_take_succ {α : Type} {l : List α} {i : Nat} {x y : α} (h : l[i]? = some x) : y ∈ l.take (i + 1) ↔ y ∈ l.take i ∨ y = x := by
  rw [List.take_add_one, h]
  simp
/-- sublists of equal length are equal; here: nodup lists, one within the other -/
theorem mem_of_len {α : Type} [DecidableEq α] {l D : List α} (hl : l.Nodup) (hD : D.Nodup) (hs : ∀ x ∈ l, x ∈ D) (he : l.length = D.length) : ∀ x ∈ D, x ∈ l := by
  intro x hx
  refine Classical.byContradiction fun hn => ?_
  have h := nodup_len l (D.erase x) hl fun y hy => by
    have hyx : y ≠ x := fun e => hn (e ▸ hy)
    exact (List.mem_erase_of_ne hyx).mpr (hs y hy)
  rw [List.length_erase_of_mem hx] at h
  have : 0 < D.length := List.length_pos_of_mem hx
  omega

/-! ### graphs -/
section
variable {α : Type} {E : α → List α}
inductive Reach (E : α → List α) : α → α → Prop where
  | refl (a : α) : Reach E a a
  | step {a b c : α} : Reach E a b → c ∈ E b → Reach E a c
theorem Reach.trans {a b c : α} (h : Reach E a b) (k : Reach E b c) : Reach E a c := by
  induction k with
  | refl => exact h
  | step _ e ih => exact .step ih e
theorem Reach.head {a b c : α} (e : b ∈ E a) (k : Reach E b c) : Reach E a c := (Reach.step (.refl a) e).trans k
theorem Reach.cases_head {a c : α} (h : Reach E a c) : a = c ∨ ∃ b, b ∈ E a ∧ Reach E b c := by
  induction h with
  | refl => exact .inl rfl
  | step h e ih =>
    rcases ih with rfl | ⟨b, h1, h2⟩
    · exact .inr ⟨_, e, .refl _⟩
    · exact .inr ⟨b, h1, .step h2 e⟩
/-- a set that holds a and its next ones holds all that comes -/
theorem Reach.within {P : α → Prop} {a b : α} (h : Reach E a b) (h0 : P a) (hs : ∀ x, P x → ∀ y ∈ E x, P y) : P b := by
  induction h with
  | refl => exact h0
  | step _ e ih => exact hs _ ih _ e
/-- backwards -/
theorem Reach.back {P : α → Prop} {a b : α} (h : Reach E a b) (h0 : P b) (hs : ∀ x, Reach E a x → ∀ y ∈ E x, P y → P x) : P a := by
  induction h with
  | refl => exact h0
  | step k e ih => exact ih (hs _ k _ e h0)
def CanTo (E : α → List α) (S : α → Prop) (x : α) : Prop := ∃ y, Reach E x y ∧ S y
theorem CanTo.step {S : α → Prop} {x y : α} (e : y ∈ E x) (h : CanTo E S y) : CanTo E S x := by
  obtain ⟨z, h1, h2⟩ := h
  exact ⟨z, Reach.head e h1, h2⟩
theorem CanTo.self {S : α → Prop} {x : α} (h : S x) : CanTo E S x := ⟨x, .refl x, h⟩
/-- ranks that fall lead to rank nought -/
theorem ranks_fall {R : α → Prop} {S : α → Prop} (rk : α → Int) (h0 : ∀ x, R x → 0 ≤ rk x) (hz : ∀ x, R x → rk x = 0 → S x) (hf : ∀ x, R x → 0 < rk x → ∃ y ∈ E x, R y ∧ rk y < rk x) : ∀ (n : Nat) (x : α), R x → (rk x).toNat ≤ n → CanTo E S x
  | 0, x, hR, hn => by
    have := h0 x hR
    exact .self (hz x hR (by omega))
  | n + 1, x, hR, hn => by
    have h := h0 x hR
    by_cases e : rk x = 0
    · exact .self (hz x hR e)
    · obtain ⟨y, hy, Ry, hlt⟩ := hf x hR (by omega)
      have h' := h0 y Ry
      exact .step hy (ranks_fall rk h0 hz hf n y Ry (by omega))
end
end KM

namespace KM
/-! ### rules and crowds -/
abbrev Crowd := List Int
structure Mt where
  a : Nat
  b : Nat
  c : Nat
  d : Nat
structure Rl where
  rooms : Nat
  starts : List Nat
  meets : List Mt
  says : List Bool
structure Mt.Ok (m : Mt) (n : Nat) : Prop where
  a : m.a < n
  b : m.b < n
  c : m.c < n
  d : m.d < n
structure Rl.Ok (r : Rl) : Prop where
  rooms1 : 1 ≤ r.rooms
  rooms5 : r.rooms ≤ 5
  sorts1 : 1 ≤ r.starts.length
  sorts4 : r.starts.length ≤ 4
  starts : ∀ x ∈ r.starts, x < r.rooms
  meets : ∀ m ∈ r.meets, m.Ok r.rooms
  many : r.meets.length ≤ 100
  says : r.says.length = r.rooms
def bmp (l : List Int) (i : Nat) (k : Int) : List Int := l.set i (l.getD i 0 + k)
def cut2 (c : Crowd) (m : Mt) : Crowd := bmp (bmp c m.a (-1)) m.b (-1)
def behind (c : Crowd) (m : Mt) : Crowd := bmp (bmp (cut2 c m) m.c 1) m.d 1
def canB (c : Crowd) (m : Mt) : Bool := if m.a = m.b then decide (2 ≤ c.getD m.a 0) else (decide (1 ≤ c.getD m.a 0) && decide (1 ≤ c.getD m.b 0))
theorem bmp_len (l : List Int) (i : Nat) (k : Int) : (bmp l i k).length = l.length := by simp [bmp]
theorem bmp_get (l : List Int) (i j : Nat) (k : Int) (hi : i < l.length) : (bmp l i k).getD j 0 = l.getD j 0 + if j = i then k else 0 := by
  unfold bmp
  by_cases e : j = i
  · subst e
    rw [List.getD_eq_getElem?_getD, List.getElem?_set_self hi, if_pos rfl]
    rfl
  · rw [List.getD_eq_getElem?_getD, List.getElem?_set_ne (Ne.symm e), if_neg e, List.getD_eq_getElem?_getD]
    omega
theorem sum_set' : ∀ {l : List Int} {j : Nat} (y : Int), j < l.length → (l.set j y).sum = l.sum - l.getD j 0 + y
  | [], j, y, h => by simp at h
  | a :: r, 0, y, h => by
    show (y :: r).sum = (a :: r).sum - a + y
    rw [List.sum_cons, List.sum_cons]
    omega
  | a :: r, j + 1, y, h => by
    have ih := sum_set' (l := r) (j := j) y (by simpa using h)
    show (a :: r.set j y).sum = (a :: r).sum - r.getD j 0 + y
    rw [List.sum_cons, List.sum_cons, ih]
    omega
theorem bmp_sum (l : List Int) (i : Nat) (k : Int) (hi : i < l.length) : (bmp l i k).sum = l.sum + k := by
  unfold bmp
  rw [sum_set' _ hi]
  omega
theorem nonneg_get {l : List Int} : (∀ x ∈ l, 0 ≤ x) ↔ ∀ j, 0 ≤ l.getD j 0 := by
  constructor
  · intro h j
    rw [List.getD_eq_getElem?_getD]
    cases e : l[j]? with
    | none => simp
    | some x => exact h x (List.mem_of_getElem? e)
  · intro h x hx
    obtain ⟨j, e⟩ := List.mem_iff_getElem?.mp hx
    have := h j
    rw [List.getD_eq_getElem?_getD, e] at this
    exact this
structure Cw (n : Nat) (N : Int) (c : Crowd) : Prop where
  len : c.length = n
  pos : ∀ x ∈ c, 0 ≤ x
  sum : c.sum = N
theorem cut2_len (c : Crowd) (m : Mt) : (cut2 c m).length = c.length := by unfold cut2; rw [bmp_len, bmp_len]
theorem behind_len (c : Crowd) (m : Mt) : (behind c m).length = c.length := by unfold behind; rw [bmp_len, bmp_len, cut2_len]
theorem cut2_get {c : Crowd} {m : Mt} {n : Nat} (hm : m.Ok n) (hl : c.length = n) (j : Nat) : (cut2 c m).getD j 0 = c.getD j 0 + (if j = m.a then -1 else 0) + (if j = m.b then -1 else 0) := by
  unfold cut2
  rw [bmp_get _ _ _ _ (by rw [bmp_len, hl]; exact hm.b), bmp_get _ _ _ _ (by rw [hl]; exact hm.a)]
/-- min(left) >= 0 just where the meeting can be -/
theorem cut2_pos {c : Crowd} {m : Mt} {n : Nat} (hm : m.Ok n) (hl : c.length = n) (hp : ∀ x ∈ c, 0 ≤ x) : (∀ x ∈ cut2 c m, 0 ≤ x) ↔ canB c m = true := by
  rw [nonneg_get]
  have h0 := nonneg_get.mp hp
  unfold canB
  by_cases e : m.a = m.b
  · rw [if_pos e, decide_eq_true_iff]
    constructor
    · intro h
      have := h m.a
      rw [cut2_get hm hl, if_pos rfl, if_pos e] at this
      omega
    · intro h j
      rw [cut2_get hm hl]
      have := h0 j
      by_cases ej : j = m.a
      · rw [if_pos ej, if_pos (ej.trans e), ej]
        omega
      · rw [if_neg ej, if_neg (fun z => ej (z.trans e.symm))]
        omega
  · rw [if_neg e, Bool.and_eq_true, decide_eq_true_iff, decide_eq_true_iff]
    constructor
    · intro h
      have h1 := h m.a
      have h2 := h m.b
      rw [cut2_get hm hl, if_pos rfl, if_neg e] at h1
      rw [cut2_get hm hl, if_pos rfl, if_neg (Ne.symm e)] at h2
      omega
    · rintro ⟨h1, h2⟩ j
      rw [cut2_get hm hl]
      have := h0 j
      by_cases ea : j = m.a
      · rw [if_pos ea, if_neg (fun z => e (ea.symm.trans z)), ea]
        omega
      · by_cases eb : j = m.b
        · rw [if_neg ea, if_pos eb, eb]
          omega
        · rw [if_neg ea, if_neg eb]
          omega
theorem behind_ok {c : Crowd} {m : Mt} {n : Nat} {N : Int} (hm : m.Ok n) (hc : Cw n N c) (h : canB c m = true) : Cw n N (behind c m) := by
  refine ⟨by rw [behind_len, hc.len], ?_, ?_⟩
  · have h1 := (cut2_pos hm hc.len hc.pos).mpr h
    rw [nonneg_get] at h1 ⊢
    intro j
    unfold behind
    rw [bmp_get _ _ _ _ (by rw [bmp_len, cut2_len, hc.len]; exact hm.d), bmp_get _ _ _ _ (by rw [cut2_len, hc.len]; exact hm.c)]
    have := h1 j
    split <;> split <;> omega
  · unfold behind cut2
    rw [bmp_sum _ _ _ (by rw [bmp_len, bmp_len, bmp_len, hc.len]; exact hm.d), bmp_sum _ _ _ (by rw [bmp_len, bmp_len, hc.len]; exact hm.c), bmp_sum _ _ _ (by rw [bmp_len, hc.len]; exact hm.b), bmp_sum _ _ _ (by rw [hc.len]; exact hm.a), hc.sum]
    omega
/-! ### the steps from a crowd -/
def canP (r : Rl) (c : Crowd) : List (Mt × Nat) := r.meets.zipIdx.filter fun p => canB c p.1
def canL (r : Rl) (c : Crowd) : List Nat := (canP r c).map (·.2)
def stepsL (r : Rl) (c : Crowd) : List (Nat × Crowd) := (canP r c).map fun p => (p.2, behind c p.1)
def succs (r : Rl) (c : Crowd) : List Crowd := (stepsL r c).map (·.2)
theorem mem_canP {r : Rl} {c : Crowd} {p : Mt × Nat} : p ∈ canP r c ↔ r.meets[p.2]? = some p.1 ∧ canB c p.1 = true := by
  unfold canP
  rw [List.mem_filter, List.mem_zipIdx_iff_getElem?]
theorem mem_canL {r : Rl} {c : Crowd} {n : Nat} : n ∈ canL r c ↔ ∃ m, r.meets[n]? = some m ∧ canB c m = true := by
  unfold canL
  rw [List.mem_map]
  constructor
  · rintro ⟨p, hp, rfl⟩
    exact ⟨p.1, mem_canP.mp hp⟩
  · rintro ⟨m, h⟩
    exact ⟨(m, n), mem_canP.mpr h, rfl⟩
theorem mem_stepsL {r : Rl} {c c' : Crowd} {n : Nat} : (n, c') ∈ stepsL r c ↔ ∃ m, r.meets[n]? = some m ∧ canB c m = true ∧ c' = behind c m := by
  unfold stepsL
  rw [List.mem_map]
  constructor
  · rintro ⟨p, hp, e⟩
    have e1 := congrArg Prod.fst e
    have e2 := congrArg Prod.snd e
    simp only at e1 e2
    subst e1 e2
    obtain ⟨h1, h2⟩ := mem_canP.mp hp
    exact ⟨p.1, h1, h2, rfl⟩
  · rintro ⟨m, h1, h2, rfl⟩
    exact ⟨(m, n), mem_canP.mpr ⟨h1, h2⟩, rfl⟩
theorem mem_succs {r : Rl} {c c' : Crowd} : c' ∈ succs r c ↔ ∃ n, (n, c') ∈ stepsL r c := by
  unfold succs
  rw [List.mem_map]
  constructor
  · rintro ⟨⟨n, x⟩, hp, rfl⟩
    exact ⟨n, hp⟩
  · rintro ⟨n, h⟩
    exact ⟨(n, c'), h, rfl⟩
theorem succ_ok {r : Rl} {N : Int} {c c' : Crowd} (ho : r.Ok) (hc : Cw r.rooms N c) (h : c' ∈ succs r c) : Cw r.rooms N c' := by
  obtain ⟨n, hn⟩ := mem_succs.mp h
  obtain ⟨m, h1, h2, rfl⟩ := mem_stepsL.mp hn
  exact behind_ok (ho.meets m (List.mem_of_getElem? h1)) hc h2
abbrev Rch (r : Rl) : Crowd → Crowd → Prop := Reach (succs r)
theorem reach_ok {r : Rl} {N : Int} {c c' : Crowd} (ho : r.Ok) (hc : Cw r.rooms N c) (h : Rch r c c') : Cw r.rooms N c' :=
  h.within (P := Cw r.rooms N) hc fun x hx y hy => succ_ok ho hx hy
/-! ### how many crowds there are -/
def comps : Nat → Nat → List Crowd
  | 0, _ => [[]]
  | k + 1, n => (List.range (n + 1)).flatMap fun i => (comps k (n - i)).map fun c => (i : Int) :: c
theorem mem_comps : ∀ {k n : Nat} {c : Crowd}, c.length = k → (∀ x ∈ c, 0 ≤ x) → c.sum ≤ n → c ∈ comps k n
  | 0, n, c, hl, _, _ => by
    have : c = [] := List.eq_nil_of_length_eq_zero hl
    subst this
    simp [comps]
  | k + 1, n, [], hl, _, _ => by simp at hl
  | k + 1, n, x :: c, hl, hp, hs => by
    have hx : 0 ≤ x := hp x List.mem_cons_self
    have hc : ∀ y ∈ c, 0 ≤ y := fun y hy => hp y (List.mem_cons_of_mem _ hy)
    have h0 : ∀ l : List Int, (∀ y ∈ l, 0 ≤ y) → 0 ≤ l.sum := by
      intro l
      induction l with
      | nil => intro _; simp
      | cons a l ih =>
        intro h
        rw [List.sum_cons]
        have := ih fun y hy => h y (List.mem_cons_of_mem _ hy)
        have := h a List.mem_cons_self
        omega
    have hcs := h0 c hc
    rw [List.sum_cons] at hs
    unfold comps
    rw [List.mem_flatMap]
    refine ⟨x.toNat, List.mem_range.mpr (by omega), List.mem_map.mpr ⟨c, mem_comps (by simpa using hl) hc (by omega), ?_⟩⟩
    rw [Int.toNat_of_nonneg hx]
theorem comps_few : ∀ k, k ≤ 5 → (comps k 4).length ≤ 130 := by decide +kernel
/-- at most so many crowds of one number of hands -/
theorem crowds_few {n : Nat} {N : Int} (hn : n ≤ 5) (hN : N ≤ 4) {l : List Crowd} (hl : l.Nodup) (hc : ∀ x ∈ l, Cw n N x) : l.length ≤ 130 :=
  Nat.le_trans (nodup_len l (comps n 4) hl fun x hx => mem_comps (hc x hx).len (hc x hx).pos (by rw [(hc x hx).sum]; omega)) (comps_few n hn)
/-! ### walks along numbers -/
def walkTo (r : Rl) : Crowd → List Nat → Option Crowd
  | c, [] => some c
  | c, n :: ns => match (stepsL r c).lookup n with
    | some c' => walkTo r c' ns
    | none => none
/-! ### what a crowd says -/
inductive Said where
  | yes | no | both
  deriving DecidableEq
def wordsL (r : Rl) (c : Crowd) : List Bool := ((c.zip r.says).filter fun p => decide (0 < p.1)).map (·.2)
def said (r : Rl) (c : Crowd) : Said := if false ∈ wordsL r c then (if true ∈ wordsL r c then .both else .no) else .yes
def Said.tx : Said → String
  | .yes => "yes"
  | .no => "no"
  | .both => "both"
def truthW (t : Bool) : Said := if t then .yes else .no
/-! ### beginnings -/
def begunF (n : Nat) (l : List (Nat × Int)) : Crowd := l.foldl (fun acc p => bmp acc p.1 p.2) (List.replicate n 0)
def begun (r : Rl) (cs : List Int) : Crowd := begunF r.rooms (r.starts.zip cs)
theorem begunF_snoc (n : Nat) (l : List (Nat × Int)) (p : Nat × Int) : begunF n (l ++ [p]) = bmp (begunF n l) p.1 p.2 := by
  unfold begunF
  rw [List.foldl_append]
  rfl
theorem zeros_ok (n : Nat) : Cw n 0 (List.replicate n 0) := by
  refine ⟨by simp, fun x hx => ?_, ?_⟩
  · have : x = 0 := List.eq_of_mem_replicate hx
    omega
  · induction n with
    | zero => rfl
    | succ n ih => rw [List.replicate_succ, List.sum_cons, ih]; rfl
theorem bmp_ok {n i : Nat} {S k : Int} {c : Crowd} (h : Cw n S c) (hi : i < n) (hk : 0 ≤ k) : Cw n (S + k) (bmp c i k) := by
  refine ⟨by rw [bmp_len, h.len], ?_, by rw [bmp_sum _ _ _ (by rw [h.len]; exact hi), h.sum]⟩
  have h0 := nonneg_get.mp h.pos
  rw [nonneg_get]
  intro j
  rw [bmp_get _ _ _ _ (by rw [h.len]; exact hi)]
  have := h0 j
  split <;> omega
theorem begunF_ok (n : Nat) : ∀ (l : List (Nat × Int)) (S : Int) (c : Crowd), Cw n S c → (∀ p ∈ l, p.1 < n ∧ 0 ≤ p.2) → Cw n (S + (l.map (·.2)).sum) (l.foldl (fun acc p => bmp acc p.1 p.2) c)
  | [], S, c, h, _ => by
    show Cw n (S + ([] : List Int).sum) c
    rw [List.sum_nil, Int.add_zero]
    exact h
  | p :: l, S, c, h, hp => by
    obtain ⟨h1, h2⟩ := hp p List.mem_cons_self
    have ih := begunF_ok n l (S + p.2) _ (bmp_ok h h1 h2) fun q hq => hp q (List.mem_cons_of_mem _ hq)
    rw [List.map_cons, List.sum_cons, ← Int.add_assoc]
    exact ih
/-- counts of hands -/
structure Cs (n : Nat) (cs : List Int) : Prop where
  len : cs.length = n
  pos : ∀ x ∈ cs, 0 ≤ x
  sum1 : 1 ≤ cs.sum
  sum4 : cs.sum ≤ 4
theorem begun_ok {r : Rl} {cs : List Int} (ho : r.Ok) (hc : Cs r.starts.length cs) : Cw r.rooms cs.sum (begun r cs) := by
  have h := begunF_ok r.rooms (r.starts.zip cs) 0 _ (zeros_ok r.rooms) fun p hp => ⟨ho.starts _ (List.of_mem_zip hp).1, hc.pos _ (List.of_mem_zip hp).2⟩
  rw [List.map_snd_zip (by rw [hc.len]; exact Nat.le_refl _), Int.zero_add] at h
  exact h
end KM

namespace KM
theorem nonneg_sum : ∀ l : List Int, (∀ y ∈ l, 0 ≤ y) → 0 ≤ l.sum
  | [], _ => by simp
  | a :: l, h => by
    rw [List.sum_cons]
    have := nonneg_sum l fun y hy => h y (List.mem_cons_of_mem _ hy)
    have := h a List.mem_cons_self
    omega
theorem le_sum : ∀ {l : List Int} {x : Int}, (∀ y ∈ l, 0 ≤ y) → x ∈ l → x ≤ l.sum
  | a :: l, x, h, hx => by
    rw [List.sum_cons]
    have h1 := nonneg_sum l fun y hy => h y (List.mem_cons_of_mem _ hy)
    have h0 := h a List.mem_cons_self
    rcases List.mem_cons.mp hx with rfl | hx
    · omega
    · have := le_sum (fun y hy => h y (List.mem_cons_of_mem _ hy)) hx
      omega
def isCrowdB (n : Nat) (c : List Int) : Bool := decide (c.length = n) && ((c.all fun x => decide (0 ≤ x)) && decide (0 < c.sum))
theorem isCrowdB_iff {n : Nat} {c : List Int} : isCrowdB n c = true ↔ c.length = n ∧ (∀ x ∈ c, 0 ≤ x) ∧ 0 < c.sum := by
  unfold isCrowdB
  simp [List.all_eq_true]
end KM
namespace KM
/-! ### questions -/
inductive Qu where
  | least (s : List Nat) (n : Nat)
  | more (s u : List Nat)
  | rest (s : List Nat) (m r : Nat)
  | not (q : Qu)
def Qu.dep : Qu → Nat
  | .not q => q.dep + 1
  | _ => 0
def Qu.Ok (n : Nat) : Qu → Prop
  | .least s k => (∀ x ∈ s, x < n) ∧ s.length ≤ 10 ∧ 1 ≤ k ∧ k ≤ 3
  | .more s u => (∀ x ∈ s, x < n) ∧ (∀ x ∈ u, x < n) ∧ s.length ≤ 10 ∧ u.length ≤ 10
  | .rest s m r => (∀ x ∈ s, x < n) ∧ s.length ≤ 10 ∧ 2 ≤ m ∧ m ≤ 3 ∧ r < m
  | .not q => q.Ok n
def handsL (s : List Nat) (cs : List Int) : Int := (s.map fun i => cs.getD i 0).sum
def holdsQ : Qu → List Int → Bool
  | .least s k, cs => decide ((k : Int) ≤ handsL s cs)
  | .more s u, cs => decide (handsL u cs < handsL s cs)
  | .rest s m r, cs => decide (handsL s cs % (m : Int) = (r : Int))
  | .not q, cs => !holdsQ q cs
end KM

namespace KM
theorem mem_take_of {α : Type} {l : List α} {k : Nat} {x : α} (h : x ∈ l.take k) : x ∈ l := List.mem_of_mem_take h
/-! ### graph_of: breadth first -/
structure GInv (r : Rl) (c : Crowd) (Ln : List Crowd) (k : Nat) : Prop where
  le : k ≤ Ln.length
  nd : Ln.Nodup
  hd : Ln[0]? = some c
  rc : ∀ x ∈ Ln, Rch r c x
  cl : ∀ x ∈ Ln.take k, ∀ y ∈ succs r x, y ∈ Ln
theorem GInv.start (r : Rl) (c : Crowd) : GInv r c [c] 0 := ⟨Nat.zero_le _, by simp, rfl, fun x hx => by
  rw [List.mem_singleton.mp hx]
  exact .refl _, fun x hx => by simp at hx⟩
structure GIn (r : Rl) (c : Crowd) (Ln : List Crowd) (x : Crowd) (L2 : List Crowd) (i : Nat) : Prop where
  pre : ∃ t, L2 = Ln ++ t
  nd : L2.Nodup
  rc : ∀ y ∈ L2, Rch r c y
  cl : ∀ y ∈ (stepsL r x).take i, y.2 ∈ L2
theorem GIn.start {r : Rl} {c x : Crowd} {Ln : List Crowd} {k : Nat} (h : GInv r c Ln k) : GIn r c Ln x Ln 0 := ⟨⟨[], by simp⟩, h.nd, h.rc, fun y hy => by simp at hy⟩
theorem GIn.skip {r : Rl} {c x : Crowd} {Ln L2 : List Crowd} {i : Nat} {y : Nat × Crowd} (h : GIn r c Ln x L2 i) (hi : (stepsL r x)[i]? = some y) (hy : y.2 ∈ L2) : GIn r c Ln x L2 (i + 1) :=
  ⟨h.pre, h.nd, h.rc, fun z hz => by
    rcases (mem_take_succ hi).mp hz with q | q
    · exact h.cl z q
    · rw [q]; exact hy⟩
theorem GIn.add {r : Rl} {c x : Crowd} {Ln L2 : List Crowd} {i : Nat} {y : Nat × Crowd} (h : GIn r c Ln x L2 i) (hx : Rch r c x) (hi : (stepsL r x)[i]? = some y) (hy : y.2 ∉ L2) : GIn r c Ln x (L2 ++ [y.2]) (i + 1) := by
  obtain ⟨t, ht⟩ := h.pre
  refine ⟨⟨t ++ [y.2], by rw [ht, List.append_assoc]⟩, nodup_snoc h.nd hy, fun z hz => ?_, fun z hz => ?_⟩
  · rcases List.mem_append.mp hz with q | q
    · exact h.rc z q
    · rw [List.mem_singleton.mp q]
      exact .step hx (mem_succs.mpr ⟨y.1, List.mem_of_getElem? hi⟩)
  · rcases (mem_take_succ hi).mp hz with q | q
    · exact List.mem_append_left _ (h.cl z q)
    · rw [q]; simp
theorem GIn.fin {r : Rl} {c x : Crowd} {Ln L2 : List Crowd} {k : Nat} (g : GInv r c Ln k) (hx : Ln[k]? = some x) (h : GIn r c Ln x L2 (stepsL r x).length) : GInv r c L2 (k + 1) := by
  obtain ⟨t, ht⟩ := h.pre
  have hk : k < Ln.length := (List.getElem?_eq_some_iff.mp hx).1
  have hx2 : L2[k]? = some x := by rw [ht, List.getElem?_append_left hk]; exact hx
  refine ⟨(List.getElem?_eq_some_iff.mp hx2).1, h.nd, ?_, h.rc, fun z hz y hy => ?_⟩
  · rw [ht, List.getElem?_append_left (by omega)]
    exact g.hd
  · rcases (mem_take_succ hx2).mp hz with q | q
    · have : z ∈ Ln.take k := by
        rw [ht, List.take_append_of_le_length (by omega)] at q
        exact q
      rw [ht]
      exact List.mem_append_left _ (g.cl z this y hy)
    · subst q
      obtain ⟨n, hn⟩ := mem_succs.mp hy
      have := h.cl (n, y) (by rw [List.take_length]; exact hn)
      exact this
theorem GInv.done {r : Rl} {c : Crowd} {Ln : List Crowd} (g : GInv r c Ln Ln.length) (x : Crowd) : x ∈ Ln ↔ Rch r c x := by
  refine ⟨g.rc x, fun h => h.within (P := fun y => y ∈ Ln) (List.mem_of_getElem? g.hd) fun z hz y hy => g.cl z ?_ y hy⟩
  rw [List.take_length]
  exact hz
theorem GInv.few {r : Rl} {c : Crowd} {Ln : List Crowd} {k : Nat} {N : Int} (g : GInv r c Ln k) (ho : r.Ok) (hc : Cw r.rooms N c) (hN : N ≤ 4) : Ln.length ≤ 130 :=
  crowds_few ho.rooms5 hN g.nd fun x hx => reach_ok ho hc (g.rc x hx)
/-- the steps' places -/
theorem steps_at {r : Rl} {c : Crowd} {i : Nat} {y : Nat × Crowd} (h : (stepsL r c)[i]? = some y) : (canL r c)[i]? = some y.1 ∧ ∃ m, r.meets[y.1]? = some m ∧ canB c m = true ∧ y.2 = behind c m := by
  unfold stepsL at h
  rw [List.getElem?_map] at h
  unfold canL
  rw [List.getElem?_map]
  cases e : (canP r c)[i]? with
  | none => rw [e] at h; cases h
  | some p =>
    rw [e] at h
    have := Option.some.inj h
    subst this
    obtain ⟨h1, h2⟩ := mem_canP.mp (List.mem_of_getElem? e)
    exact ⟨rfl, p.1, h1, h2, rfl⟩
theorem steps_len (r : Rl) (c : Crowd) : (stepsL r c).length = (canL r c).length := by unfold stepsL canL; rw [List.length_map, List.length_map]
theorem can_few {r : Rl} (ho : r.Ok) (c : Crowd) : (canL r c).length ≤ 100 := by
  unfold canL canP
  rw [List.length_map]
  refine Nat.le_trans (List.length_filter_le _ _) ?_
  rw [List.length_zipIdx]
  exact ho.many
/-! ### row_to -/
structure RInv (r : Rl) (c : Crowd) (Ps : List (Crowd × Option (Crowd × Nat))) : Prop where
  nd : (Ps.map (·.1)).Nodup
  hd : Ps[0]? = some (c, none)
  par : ∀ (j : Nat) (p : Crowd × Option (Crowd × Nat)), Ps[j]? = some p → 0 < j → ∃ (i : Nat) (q : Crowd × Option (Crowd × Nat)) (n : Nat), i < j ∧ Ps[i]? = some q ∧ p.2 = some (q.1, n) ∧ (n, p.1) ∈ stepsL r q.1
theorem RInv.start (r : Rl) (c : Crowd) : RInv r c [(c, none)] := ⟨by simp, rfl, fun j p h hj => by
  have := (List.getElem?_eq_some_iff.mp h).1
  simp at this
  omega⟩
theorem RInv.reach {r : Rl} {c : Crowd} {Ps : List (Crowd × Option (Crowd × Nat))} (h : RInv r c Ps) : ∀ (j : Nat) (p : Crowd × Option (Crowd × Nat)), Ps[j]? = some p → Rch r c p.1
  | 0, p, hp => by
    rw [h.hd] at hp
    rw [← Option.some.inj hp]
    exact .refl _
  | j + 1, p, hp => by
    obtain ⟨i, q, n, hi, hq, _, hs⟩ := h.par (j + 1) p hp (Nat.succ_pos _)
    exact .step (RInv.reach h i q hq) (mem_succs.mpr ⟨n, hs⟩)
termination_by j => j
theorem RInv.rc {r : Rl} {c : Crowd} {Ps : List (Crowd × Option (Crowd × Nat))} (h : RInv r c Ps) {x : Crowd} (hx : x ∈ Ps.map (·.1)) : Rch r c x := by
  obtain ⟨p, hp, rfl⟩ := List.mem_map.mp hx
  obtain ⟨j, hj⟩ := List.mem_iff_getElem?.mp hp
  exact h.reach j p hj
theorem RInv.add {r : Rl} {c : Crowd} {Ps : List (Crowd × Option (Crowd × Nat))} {k n : Nat} {x : Crowd × Option (Crowd × Nat)} {y : Crowd} (h : RInv r c Ps) (hk : Ps[k]? = some x) (hs : (n, y) ∈ stepsL r x.1) (hy : y ∉ Ps.map (·.1)) :
    RInv r c (Ps ++ [(y, some (x.1, n))]) := by
  have hlt : k < Ps.length := (List.getElem?_eq_some_iff.mp hk).1
  refine ⟨by rw [List.map_append]; exact nodup_snoc h.nd hy, ?_, fun j p hp hj => ?_⟩
  · rw [List.getElem?_append_left (by omega)]
    exact h.hd
  · by_cases hjl : j < Ps.length
    · rw [List.getElem?_append_left hjl] at hp
      obtain ⟨i, q, m, h1, h2, h3, h4⟩ := h.par j p hp hj
      exact ⟨i, q, m, h1, by rw [List.getElem?_append_left (by omega)]; exact h2, h3, h4⟩
    · have hj2 : j = Ps.length := by
        have := (List.getElem?_eq_some_iff.mp hp).1
        rw [List.length_append] at this
        simp at this
        omega
      subst hj2
      rw [List.getElem?_append_right (Nat.le_refl _), Nat.sub_self] at hp
      have := Option.some.inj hp
      subst this
      exact ⟨k, x, n, hlt, by rw [List.getElem?_append_left hlt]; exact hk, rfl, hs⟩
/-- numbers of one crowd's steps differ -/
theorem zipIdx_nodup {α : Type} (l : List α) : (l.zipIdx.map (·.2)).Nodup := by
  rw [List.zipIdx_map_snd]
  exact List.nodup_range'
theorem lookup_step {r : Rl} {c y : Crowd} {n : Nat} (h : (n, y) ∈ stepsL r c) : (stepsL r c).lookup n = some y := by
  have nd : ((stepsL r c).map (·.1)).Nodup := by
    have e : (stepsL r c).map (·.1) = (canP r c).map (·.2) := by unfold stepsL; rw [List.map_map]; rfl
    rw [e]
    exact (zipIdx_nodup r.meets).sublist ((List.filter_sublist).map _)
  revert h nd
  generalize stepsL r c = l
  intro h nd
  induction l with
  | nil => cases h
  | cons p l ih =>
    obtain ⟨h1, h2⟩ := List.nodup_cons.mp nd
    rcases List.mem_cons.mp h with q | q
    · subst q
      simp [List.lookup]
    · have : (n == p.1) = false := by
        rw [beq_eq_false_iff_ne]
        intro e
        exact h1 (List.mem_map.mpr ⟨(n, y), q, e⟩)
      obtain ⟨p1, p2⟩ := p
      simp only [List.lookup, this]
      exact ih q h2
theorem walk_cons {r : Rl} {c y : Crowd} {n : Nat} (ns : List Nat) (h : (n, y) ∈ stepsL r c) : walkTo r c (n :: ns) = walkTo r y ns := by
  show (match (stepsL r c).lookup n with | some c' => walkTo r c' ns | none => none) = _
  rw [lookup_step h]
theorem walk_reach {r : Rl} : ∀ {ns : List Nat} {c g : Crowd}, walkTo r c ns = some g → Rch r c g
  | [], c, g, h => by
    have : c = g := Option.some.inj h
    subst this
    exact .refl _
  | n :: ns, c, g, h => by
    have h' : (match (stepsL r c).lookup n with | some c' => walkTo r c' ns | none => none) = some g := h
    cases e : (stepsL r c).lookup n with
    | none => rw [e] at h'; cases h'
    | some y =>
      rw [e] at h'
      have hm : ∀ l : List (Nat × Crowd), l.lookup n = some y → (n, y) ∈ l := by
        intro l
        induction l with
        | nil => intro q; cases q
        | cons p l ih =>
          obtain ⟨p1, p2⟩ := p
          intro q
          by_cases hp : n = p1
          · subst hp
            simp [List.lookup] at q
            subst q
            exact List.mem_cons_self
          · have : (n == p1) = false := beq_eq_false_iff_ne.mpr hp
            simp only [List.lookup, this] at q
            exact List.mem_cons_of_mem _ (ih q)
      exact Reach.head (mem_succs.mpr ⟨n, hm _ e⟩) (walk_reach h')
/-! ### backwards: ranks_to, _law_back -/
structure KInv (r : Rl) (ks goals : List Crowd) (Ps : List (Crowd × Int)) (k : Nat) : Prop where
  le : k ≤ Ps.length
  nd : (Ps.map (·.1)).Nodup
  sub : ∀ p ∈ Ps, p.1 ∈ ks
  gl : ∀ g ∈ goals, g ∈ Ps.map (·.1)
  rk : ∀ p ∈ Ps, 0 ≤ p.2 ∧ (p.2 = 0 → p.1 ∈ goals) ∧ (0 < p.2 → ∃ q ∈ Ps, q.1 ∈ succs r p.1 ∧ q.2 < p.2)
  cl : ∀ y ∈ (Ps.map (·.1)).take k, ∀ x ∈ ks, y ∈ succs r x → x ∈ Ps.map (·.1)
theorem KInv.start {r : Rl} {ks goals : List Crowd} (hn : goals.Nodup) (hs : ∀ g ∈ goals, g ∈ ks) : KInv r ks goals (goals.map fun g => (g, 0)) 0 := by
  have e : (goals.map fun g => ((g, 0) : Crowd × Int)).map (·.1) = goals := by rw [List.map_map]; exact List.map_id goals
  refine ⟨Nat.zero_le _, by rw [e]; exact hn, fun p hp => ?_, fun g hg => by rw [e]; exact hg, fun p hp => ?_, fun y hy => by simp at hy⟩
  · obtain ⟨g, hg, rfl⟩ := List.mem_map.mp hp
    exact hs g hg
  · obtain ⟨g, hg, rfl⟩ := List.mem_map.mp hp
    exact ⟨Int.le_refl _, fun _ => hg, fun h => absurd h (Int.lt_irrefl _)⟩
/-- within the turn of the k-th, y: the first i of its list of those ahead -/
structure KIn (r : Rl) (ks goals : List Crowd) (P0 : List (Crowd × Int)) (y : Crowd) (As : List Crowd) (P2 : List (Crowd × Int)) (i : Nat) : Prop where
  pre : ∃ t, P2 = P0 ++ t
  nd : (P2.map (·.1)).Nodup
  sub : ∀ p ∈ P2, p.1 ∈ ks
  rk : ∀ p ∈ P2, 0 ≤ p.2 ∧ (p.2 = 0 → p.1 ∈ goals) ∧ (0 < p.2 → ∃ q ∈ P2, q.1 ∈ succs r p.1 ∧ q.2 < p.2)
  cl : ∀ x ∈ As.take i, x ∈ P2.map (·.1)
theorem KIn.start {r : Rl} {ks goals As : List Crowd} {Ps : List (Crowd × Int)} {k : Nat} {y : Crowd} (h : KInv r ks goals Ps k) : KIn r ks goals Ps y As Ps 0 := ⟨⟨[], by simp⟩, h.nd, h.sub, h.rk, fun x hx => by simp at hx⟩
theorem KIn.skip {r : Rl} {ks goals As : List Crowd} {P0 P2 : List (Crowd × Int)} {i : Nat} {x y : Crowd} (h : KIn r ks goals P0 y As P2 i) (hi : As[i]? = some x) (hx : x ∈ P2.map (·.1)) : KIn r ks goals P0 y As P2 (i + 1) :=
  ⟨h.pre, h.nd, h.sub, h.rk, fun z hz => by
    rcases (mem_take_succ hi).mp hz with q | q
    · exact h.cl z q
    · rw [q]; exact hx⟩
theorem KIn.add {r : Rl} {ks goals As : List Crowd} {P0 P2 : List (Crowd × Int)} {i : Nat} {x y : Crowd} {v : Int} (h : KIn r ks goals P0 y As P2 i) (hi : As[i]? = some x) (hx : x ∉ P2.map (·.1)) (hk : x ∈ ks) (hy : (y, v) ∈ P2) (hs : y ∈ succs r x) :
    KIn r ks goals P0 y As (P2 ++ [(x, v + 1)]) (i + 1) := by
  obtain ⟨t, ht⟩ := h.pre
  refine ⟨⟨t ++ [(x, v + 1)], by rw [ht, List.append_assoc]⟩, by rw [List.map_append]; exact nodup_snoc h.nd hx, fun p hp => ?_, fun p hp => ?_, fun z hz => ?_⟩
  · rcases List.mem_append.mp hp with q | q
    · exact h.sub p q
    · rw [List.mem_singleton.mp q]; exact hk
  · rcases List.mem_append.mp hp with q | q
    · obtain ⟨a, b, c⟩ := h.rk p q
      exact ⟨a, b, fun z => by
        obtain ⟨w, hw, h1, h2⟩ := c z
        exact ⟨w, List.mem_append_left _ hw, h1, h2⟩⟩
    · rw [List.mem_singleton.mp q]
      have h0 := (h.rk (y, v) hy).1
      simp only at h0
      refine ⟨by simp only; omega, fun z => by simp only at z; omega, fun _ => ⟨(y, v), List.mem_append_left _ hy, hs, by simp only; omega⟩⟩
  · rw [List.map_append, List.mem_append]
    rcases (mem_take_succ hi).mp hz with q | q
    · exact .inl (h.cl z q)
    · rw [q]; exact .inr (by simp)
theorem KIn.fin {r : Rl} {ks goals As : List Crowd} {Ps P2 : List (Crowd × Int)} {k : Nat} {y : Crowd} (g : KInv r ks goals Ps k) (hy : (Ps.map (·.1))[k]? = some y) (hA : ∀ x ∈ ks, y ∈ succs r x → x ∈ As) (h : KIn r ks goals Ps y As P2 As.length) : KInv r ks goals P2 (k + 1) := by
  obtain ⟨t, ht⟩ := h.pre
  have hm : P2.map (·.1) = Ps.map (·.1) ++ t.map (·.1) := by rw [ht, List.map_append]
  have hk : k < (Ps.map (·.1)).length := (List.getElem?_eq_some_iff.mp hy).1
  have hy2 : (P2.map (·.1))[k]? = some y := by rw [hm, List.getElem?_append_left hk]; exact hy
  refine ⟨by have := (List.getElem?_eq_some_iff.mp hy2).1; rw [List.length_map] at this; exact this, h.nd, h.sub, fun z hz => by rw [hm]; exact List.mem_append_left _ (g.gl z hz), h.rk, fun z hz x hx hs => ?_⟩
  rcases (mem_take_succ hy2).mp hz with q | q
  · rw [hm, List.take_append_of_le_length (by omega)] at q
    rw [hm]
    exact List.mem_append_left _ (g.cl z q x hx hs)
  · subst q
    exact h.cl x (by rw [List.take_length]; exact hA x hx hs)
/-- what the ranks tell -/
structure Ranks (r : Rl) (ks goals : List Crowd) (Ps : List (Crowd × Int)) : Prop where
  nd : (Ps.map (·.1)).Nodup
  sub : ∀ p ∈ Ps, p.1 ∈ ks
  gl : ∀ g ∈ goals, g ∈ Ps.map (·.1)
  rk : ∀ p ∈ Ps, 0 ≤ p.2 ∧ (p.2 = 0 → p.1 ∈ goals) ∧ (0 < p.2 → ∃ q ∈ Ps, q.1 ∈ succs r p.1 ∧ q.2 < p.2)
  cl : ∀ y ∈ Ps.map (·.1), ∀ x ∈ ks, y ∈ succs r x → x ∈ Ps.map (·.1)
theorem KInv.done {r : Rl} {ks goals : List Crowd} {Ps : List (Crowd × Int)} (g : KInv r ks goals Ps Ps.length) : Ranks r ks goals Ps :=
  ⟨g.nd, g.sub, g.gl, g.rk, fun y hy x hx hs => g.cl y (by
    have : (Ps.map (·.1)).length = Ps.length := List.length_map _
    rw [← this, List.take_length]
    exact hy) x hx hs⟩
theorem Ranks.iff {r : Rl} {ks goals : List Crowd} {Ps : List (Crowd × Int)} (g : Ranks r ks goals Ps) (hk : ∀ x ∈ ks, ∀ y ∈ succs r x, y ∈ ks) (x : Crowd) (hx : x ∈ ks) : x ∈ Ps.map (·.1) ↔ CanTo (succs r) (fun y => y ∈ goals) x := by
  constructor
  · intro h
    obtain ⟨p, hp, rfl⟩ := List.mem_map.mp h
    have : ∀ (n : Nat) (p : Crowd × Int), p ∈ Ps → p.2.toNat ≤ n → CanTo (succs r) (fun y => y ∈ goals) p.1 := by
      intro n
      induction n with
      | zero =>
        intro p hp hn
        obtain ⟨h0, h1, h2⟩ := g.rk p hp
        exact .self (h1 (by omega))
      | succ n ih =>
        intro p hp hn
        obtain ⟨h0, h1, h2⟩ := g.rk p hp
        by_cases e : p.2 = 0
        · exact .self (h1 e)
        · obtain ⟨q, hq, hs, hlt⟩ := h2 (by omega)
          have := (g.rk q hq).1
          exact .step hs (ih q hq (by omega))
    exact this _ p hp (Nat.le_refl _)
  · rintro ⟨y, hr, hy⟩
    have hks : ∀ z, Rch r x z → z ∈ ks := fun z hz => hz.within (P := fun z => z ∈ ks) hx hk
    exact hr.back (P := fun z => z ∈ Ps.map (·.1)) (g.gl y hy) fun z hz w hw hP => g.cl w hP z (hks z hz) hw
end KM

/-! ### enumerate(tuple) -/
namespace PySem
theorem ke_enumNewT (l : Addr) (items : Array Value) (n : Nat) (dct : Option Addr) (sl : Array (Option Value)) :
    Meets (Builtin.«enumerate.__new__» ⟨[.type "enumerate", .ref l], []⟩) (fun _ R s => s.heap.get? l = some { cls := .type "tuple", dict := dct, data := .seq items n, slots := sl } ∧
      R (.ok (.ret (.ref (s.heap.push { cls := .type "tuple_iterator", data := .fields #[.ref l, .int 0 0] }).objs.size)))
        { s with heap := (s.heap.push { cls := .type "tuple_iterator", data := .fields #[.ref l, .int 0 0] }).push { cls := .type "enumerate", data := .fields #[.none, .bool false, .ref s.heap.objs.size, rawInt 0, .none, .none] } }) :=
  .of_wp fun prog w A R s h => by
    obtain ⟨hp, g, d, tk, os⟩ := s; obtain ⟨hl, h⟩ := h
    have hsub := sub_enumerate
    have hT : Heap.IsTuple (Shared.heap ⟨hp, g, d, tk, os⟩) l items := ⟨_, hl, rfl, n, rfl⟩
    wp_walk using AutoSeq1.wpAny_loadPart' hl
    refine wpAny_stack_any fun st => wpAny_pure ?_
    split
    · rename_i c _ _ _ _ _
      cases (c == Value.type "enumerate")
      · wp_walk using AutoSeq1.wpAny_loadPart' hl, wpAny_pyIter_tuple hT
        exact ⟨_, rfl, h⟩
      · wp_walk using AutoSeq1.wpAny_loadPart' hl, wpAny_pyIter_tuple hT
        exact ⟨_, rfl, h⟩
    · wp_walk using AutoSeq1.wpAny_loadPart' hl, wpAny_pyIter_tuple hT
      exact ⟨_, rfl, h⟩
theorem ke_callEnumT {prog : Program} {w : World} {A : Around} {E : Value → Shared → Prop} {s : Shared} {l : Addr} {items : Array Value} {Q : Value → Shared → Prop} (hL : s.heap.IsTuple l items)
    (h : ∀ h', IsEnum h' (s.heap.objs.size + 1) s.heap.objs.size 0 .none → h'.IsTupleIter s.heap.objs.size l 0 → h'.objs.size = s.heap.objs.size + 2 →
      (∀ b o, s.heap.get? b = some o → h'.get? b = some o) → Q (.ref (s.heap.objs.size + 1)) { s with heap := h' }) :
    wpAny (model prog w) A (call (.type "enumerate") [.ref l]) Q E s := by
  obtain ⟨⟨c, dct, dt, sl⟩, hl, hc, n, hd⟩ := hL
  replace hc : c = .type "tuple" := hc
  replace hd : dt = .seq items n := hd
  subst hc hd
  refine callType_new F.called_enumerate (by decide) (F.typeCall_enumerate_1 _) (F.newCall_enumerate_1 _) (fun obj => F.args_object_init_2 obj _) F.entry_enumerate_new
    (ke_enumNewT l items n dct sl) ⟨hl, ?_⟩
  have hz : (s.heap.push { cls := .type "tuple_iterator", data := .fields #[.ref l, .int 0 0] }).objs.size = s.heap.objs.size + 1 := Heap.size_push ..
  show _ ∧ _
  rw [hz]
  have he : IsEnum ((s.heap.push { cls := .type "tuple_iterator", data := .fields #[.ref l, .int 0 0] }).push
      { cls := .type "enumerate", data := .fields #[.none, .bool false, .ref s.heap.objs.size, rawInt 0, .none, .none] }) (s.heap.objs.size + 1) s.heap.objs.size 0 .none := by
    have := Heap.get?_push_size (s.heap.push { cls := .type "tuple_iterator", data := .fields #[.ref l, .int 0 0] })
      (o := { cls := .type "enumerate", data := .fields #[.none, .bool false, .ref s.heap.objs.size, rawInt 0, .none, .none] }) rfl
    rw [hz] at this; exact this
  refine ⟨⟨_, he, rfl⟩, h _ he ⟨_, Heap.get?_push_of_some _ (Heap.get?_push_size _ rfl), rfl, rfl⟩ (by rw [Heap.size_push, hz]) fun b o x => Heap.get?_push_of_some _ (Heap.get?_push_of_some _ x)⟩
end PySem
namespace L2
open PySem PySem.Spec PyProof.Rows
/-- the tuple at a, each item in a new pair -/
def ItU (K : PySem.W.Frag) (a : Addr) : It :=
  ⟨fun i H => ∃ (xs : List V) (x : V), SqT K H a xs ∧ xs[i]? = some x, fun i H v H' => ∃ T x, v = .ref T ∧ H T = none ∧ H' = upd H T (.tup [.int (i : Nat), x]) ∧ ∀ xs, SqT K H a xs → xs[i]? = some x, fun i H => ∃ xs : List V, SqT K H a xs ∧ xs.length ≤ i⟩
theorem turn_enumT {P : Program} {w : World} {K : PySem.W.Frag} {elts : List Expr} {kk : Nat} {tpos : Pos} (a e it : Addr) (hai : a ≠ it) (hae : a ≠ e) :
    Turn P w K (.Tuple elts kk tpos) (ItU K a) [e, it] e (fun i h => (∃ old, IsEnum h e it ((i : Nat) : Int) old) ∧ h.IsTupleIter it a i ∧ e ≠ it) where
  mem := by simp
  obj := fun i h st b hb => by
    obtain ⟨⟨old, he⟩, ⟨o, ho, hc, hd⟩, _⟩ := st
    have e' : b = e ∨ b = it := by simpa using hb
    rcases e' with z | z
    · rw [z]; exact ⟨_, he, fun v q => nomatch q⟩
    · rw [z]; exact ⟨o, ho, fun v q => by rw [hd] at q; cases q⟩
  keep := fun i h h' st k => let ⟨⟨old, he⟩, hi, hne⟩ := st; ⟨⟨old, k e (by simp) _ he⟩, hi.at fun o q => k it (by simp) o q, hne⟩
  item := by
    intro X hP hw hK hc i pins s σ H E I hf st hg
    subst hP hw hK
    obtain ⟨⟨old, he⟩, hit, hne⟩ := st
    obtain ⟨xs, x, hq, hx⟩ := hg
    obtain ⟨its, rv, p, hz⟩ := I.tuple hq
    obtain ⟨u, hu, ru⟩ := rv.get hx
    have hel : e < s.heap.objs.size := Heap.lt_size he
    have hil : it < s.heap.objs.size := by obtain ⟨_, q, _⟩ := hit; exact Heap.lt_size q
    have hiT : s.heap.IsTuple a its.toArray := p
    have hlt : i < its.toArray.size := by
      rw [List.size_toArray]
      exact (List.getElem?_eq_some_iff.mp hu).1
    have hh1 : X.A.in1.handled = none := I.ok.hd hc
    have hnf : e ∉ [it, a] := fun z => by
      rcases (show e = it ∨ e = a by simpa using z) with z | z
      · exact hne z
      · exact hae z.symm
    refine wpAny_pyNext_enum_itemC (Draws.tuple hh1 it a hai its.toArray) he ⟨hit, hiT⟩ hlt hne hnf fun x' h' tk hx' ho hit' hT hsz hk => ?_
    have ex : x' = u := by
      rw [List.getElem?_toArray, hu] at hx'
      exact (Option.some.inj hx').symm
    subst ex
    refine ⟨_, rfl, wpAny_letOwnedTupleGo_enum (s := { s with heap := h', toks := tk + 1 }) ho fun h'' he' sb => ?_⟩
    have hT2 : h''.get? s.heap.objs.size = some { cls := .type "tuple", data := .seq #[.int i tk, x'] } := (sb.2 _ (Nat.ne_of_gt hel)).trans hT
    have new : ObjOk X.prog X.w (upd H s.heap.objs.size (.tup [.int (i : Nat), x])) h'' s.heap.objs.size (.tup [.int (i : Nat), x]) :=
      ⟨by show 2 ≤ sizeLine; decide, [.int i tk, x'], .cons ⟨_, rfl⟩ (.cons ru .nil), ⟨_, hT2, rfl, _, rfl⟩⟩
    have I1 : Inv X pins σ (upd H s.heap.objs.size (.tup [.int (i : Nat), x])) { s with heap := h'', toks := tk + 1 } :=
      I.turnedNew (ch := [e, it]) (fun b ob hb q => (sb.2 b (fun z => hb (by simp [z]))).trans (hk b ob (fun z => hb (by simp [z])) (fun z => hb (by simp [z])) q)) hf (Nat.le_refl _) new
    refine ⟨.ref s.heap.objs.size, _, I1, rfl, ⟨_, x, rfl, I.hok.fresh (Nat.le_refl _), rfl, fun ys hy => by rw [I.tuple_inj hy hq]; exact hx⟩, ⟨⟨x', ?_⟩, hit'.1.at fun o q => (sb.2 it (Ne.symm hne)).trans q, hne⟩, fun b hb => ?_⟩
    · have e1 : ((i + 1 : Nat) : Int) = (i : Int) + 1 := by omega
      rw [e1]; exact he'
    · have hb' : b < s.heap.objs.size := by
        have e' : b = e ∨ b = it := by simpa using hb
        rcases e' with z | z
        · rw [z]; exact hel
        · rw [z]; exact hil
      rw [upd_ne (Nat.ne_of_lt hb')]
      exact (hf b hb).1
  done := by
    intro X hP hw hK hc i pins s σ H E I hf st hg
    subst hP hw hK
    obtain ⟨⟨old, he⟩, hit, hne⟩ := st
    obtain ⟨xs, hq, hx⟩ := hg
    obtain ⟨its, rv, p, hz⟩ := I.tuple hq
    obtain ⟨f0, f1, f2, f3, f4, f5⟩ := hf it (by simp)
    have hl := rv.length
    have hh1 : X.A.in1.handled = none := I.ok.hd hc
    have hend : its.toArray[i]? = none := Array.getElem?_eq_none (by rw [List.size_toArray]; omega)
    have D : Draws X.prog X.w X.A.in1 it [it, a] i (fun _ _ => True) (fun j h => j = i ∧ h.IsTupleIter it a i ∧ h.IsTuple a its.toArray) := {
      live := fun _ _ st => let ⟨o, ho, _⟩ := st.2.1; ⟨o, ho⟩
      frame := fun _ _ _ st hk => ⟨st.1, st.2.1.at fun o e => hk it (by simp) o e, st.2.2.at fun o e => hk a (by simp) o e⟩
      item := fun j s Q E hj st hQ => absurd st.1 (Nat.ne_of_lt hj)
      done := fun s Q E st hE => wpAny_nextOf_tuple_end hh1 st.2.1 st.2.2 hend hE }
    exact wpAny_pyNext_enum_endD D he ⟨rfl, hit, p⟩ fun h' eb => ⟨rfl, I.turned (t' := s.toks) (fun b o hb q => eb b o (fun z => hb (by simp [z])) q) f0 f1 f3 f4 f5⟩
  self := fun A i s Q E st h => let ⟨⟨_, he⟩, _⟩ := st; wpAny_pyIter_enum he h
def iEnumT (K : PySem.W.Frag) (ta : TA) : TI := fun σ H R => ta σ H fun vs H1 => ∃ a xs, vs = [.ref a] ∧ SqT K H1 a xs ∧ R (ItU K a) H1
theorem pi_enumT {X : Cx} {e : Expr} {ta : TA} {p pos tpos : Pos} {elts : List Expr} {kk : Nat} (hg : Gl X "enumerate") (hm : X.mg "enumerate" = none) (ha : PA X [e] ta) (hs : starEach [e] X.env = [(false, eval e X.env)] := by rfl) :
    PI X (.Tuple elts kk tpos) (.Call (.Name "enumerate" p) [e] [] pos) (iEnumT X.K ta) := by
  refine ⟨fun pins s σ H R I h => ?_⟩
  refine Call_ (ld_blt I hg hm boot_enumerate (PyProof.Rows.callWith_type1 (thn (ha.run pos pins s σ H _ I h) fun us s1 ⟨vs, H1, I1, r1, q1⟩ => ?_) hs rfl))
  obtain ⟨a, xs, ex, hq, q⟩ := q1
  subst ex
  cases r1 with
  | cons r rr =>
    cases rr
    cases r
    obtain ⟨its, rv, p', hz⟩ := I1.tuple hq
    have hT : s1.heap.IsTuple a its.toArray := p'
    have hal : a < s1.heap.objs.size := by obtain ⟨_, z, _⟩ := hT; exact Heap.lt_size z
    refine PySem.ke_callEnumT hT fun h' he hit hsz hk => wpAny_pyIter_enum he ?_
    have I2 : Inv X pins σ H1 { s1 with heap := h' } := I1.kept (t' := s1.toks) hk
    refine ⟨s1.heap.objs.size + 1, [s1.heap.objs.size + 1, s1.heap.objs.size], _, _, H1, rfl, I2, turn_enumT a (s1.heap.objs.size + 1) s1.heap.objs.size (Nat.ne_of_lt hal) (Nat.ne_of_lt (Nat.lt_succ_of_lt hal)), ⟨⟨.none, he⟩, hit, Nat.succ_ne_self _⟩, fun b hb => ?_, q⟩
    have e' : b = s1.heap.objs.size + 1 ∨ b = s1.heap.objs.size := by simpa using hb
    have hle : s1.heap.objs.size ≤ b := by
      rcases e' with z | z
      · rw [z]; exact Nat.le_add_right _ _
      · rw [z]; exact Nat.le_refl _
    exact I1.fpOk hle (I1.hok.fresh hle)
theorem walk_enumT {K : PySem.W.Frag} {a : Addr} {xs : List V} : Walk (ItU K a) xs.length (fun H => SqT K H a xs) (YPair (fun i => some (.int (i : Nat))) (fun i => xs[i]?)) := by
  refine ⟨fun i _ hi q => ⟨xs, xs[i], q, by simp [hi]⟩, fun _ q => ⟨xs, q, Nat.le_refl _⟩, fun i H v H' _ q y => ?_⟩
  obtain ⟨T, x, h1, h2, h3, h4⟩ := y
  exact ⟨T, .int (i : Nat), x, h1, h2, h3, rfl, h4 xs q⟩
end L2

namespace L2
open PySem PySem.Spec PyProof.Rows
section
variable {prog : Program} {w : World} {A : Around} {E : Value → Shared → Prop} {s : Shared} {l : Addr}
theorem sum_rawT {its : List Value} {ns : List Int} {Q : Value → Shared → Prop} (hh : A.handled = none) (hl : s.heap.IsTuple l its.toArray) (hi : IntsAre its ns)
    (h : ∀ h' tk t', (∀ b o, s.heap.get? b = some o → h'.get? b = some o) → Q (.int ns.sum t') { s with heap := h', toks := tk }) : wpAny (model prog w) A (call (.builtin "sum") [.ref l]) Q E s := by
  obtain ⟨xs, e⟩ := hi.allInts.items
  have hn : numsOf (intItems xs).toList = ns := by rw [← e]; exact hi.numsOf
  rw [nums_intItems] at hn
  rw [e] at hl
  have hlt : l < s.heap.objs.size := by obtain ⟨_, z, _⟩ := hl; exact Heap.lt_size z
  refine call_sum_walkG (wpAny_pyIter_tuple hl ?_)
  have hh1 : A.in1.handled = none := hh
  have k : ∀ b o, s.heap.get? b = some o → (s.heap.push { cls := .type "tuple_iterator", data := .fields #[.ref l, .int 0 0] }).get? b = some o := fun b o e => Heap.get?_push_of_some _ e
  refine ⟨s.heap.objs.size, _, _, _, _, _, numAt xs, rfl, Walks.tuple hh1 s.heap.objs.size l (Nat.ne_of_lt hlt) (intItems xs), ⟨⟨_, Heap.get?_push_size _ rfl, rfl, rfl⟩, hl.at fun o e => k l o e⟩, fun b hb => ?_, (fun _ _ => intItems_at), fun h' tk t' hk => ?_⟩
  · show b < (s.heap.push { cls := .type "tuple_iterator", data := .fields #[.ref l, .int 0 0] }).objs.size
    rw [Heap.size_push]
    rcases (show b = s.heap.objs.size ∨ b = l by simpa using hb) with z | z <;> rw [z]
    · exact Nat.lt_succ_self _
    · exact Nat.lt_succ_of_lt hlt
  · have := h h' tk t' fun b o e => hk b o (by
      have : b ≠ s.heap.objs.size := Nat.ne_of_lt (Heap.lt_size e)
      simpa using this) (k b o e)
    have hz : (intItems xs).size = xs.size := by simp [intItems]
    rw [hz, preSum_eq, List.take_of_length_le (by simp), hn]
    exact this
end
section
variable {X : Cx}
def rSumT (K : PySem.W.Frag) : List V → Hp → VK → Prop := fun vs H Q => ∃ (a : Addr) (ns : List Int), vs = [V.ref a] ∧ SqT K H a (ns.map V.int) ∧ Q (.int ns.sum) H
theorem cr_sumT (hc : X.calm = true) : CallR X (.builtin "sum") (rSumT X.K) := by
  intro pins s σ H vs us Q I r h
  obtain ⟨a, ns, rfl, hs, q⟩ := h
  obtain ⟨its, rv, hl, _⟩ := I.tuple hs
  rw [Vals.ref1 r]
  exact sum_rawT (I.ok.hd hc) hl rv.ints fun h' tk t' hk => ⟨.int _, H, I.kept hk, ⟨_, rfl⟩, q⟩
end
end L2

namespace L2
open PySem PySem.Spec PyProof.Rows HT
section
variable {prog : Program} {w : World} {A : Around} {E : Value → Shared → Prop} {s : Shared}
/-- (x, y)[::-1] -/
theorem getItem_rev2 {t sl : Addr} {x y vs : Value} {Q : Value → Shared → Prop} (ht : IsTup s.heap t #[x, y]) (hs : s.heap.IsSliceOf sl .none .none vs) (ps : IsPart vs (some (-1)))
    (h : Q (.ref s.heap.objs.size) { s with heap := s.heap.push { cls := .type "tuple", data := .seq #[y, x] } }) : wpAny (model prog w) A (getItem (.ref t) (.ref sl)) Q E s := by
  obtain ⟨os, hos, hcs, hds⟩ := id hs
  have hTs : s.TypeIs (.ref sl) "slice" := ⟨os, hos, hcs⟩
  unfold getItem
  try with_reducible refine wpAny_holding ?_
  first | refine wpAny_bind (wpAny_pure ?_) | skip
  refine wpAny_bind (wpAny_sequenceKey ht.typeIs (by decide) ?_)
  refine wpAny_bind (wpAny_callSpecial?_slot (name := Str.ofString "__getitem__") ht.typeIs PyProof.Rows.slot_tuple_getitem
    (wpAny_call_entry PyProof.Rows.slot_tuple_getitem ht.typeIs entry_tuple_getitem ?_ (args_tuple_getitem _ _)))
  show wpAny _ _ (Builtin.Tuple.tupleItemsOf (.ref t) >>= _) _ _ s
  refine wpAny_bind (tupleItemsOf_ ht ?_)
  refine wpAny_bind (wpAny_typeOf hTs ?_)
  rw [if_pos (by decide)]
  refine wpAny_bind ?_
  · unfold Builtin.Slice.sliceApplied Builtin.Slice.sliceFields
    refine wpAny_bind (wpAny_bind (wpAny_field hos hds (x := .none) rfl (wpAny_bind (wpAny_field hos hds (x := .none) rfl (wpAny_bind (wpAny_field hos hds (x := vs) rfl (wpAny_pure ?_)))))))
    refine wpAny_bind (slicePart_ ps ?_)
    show wpAny _ _ (if ((-1 : Int) == 0) = true then _ else _) _ _ s
    rw [if_neg (by decide)]
    refine wpAny_bind (slicePart_ .none (wpAny_bind (slicePart_ .none (wpAny_bind (wpAny_pure ?_)))))
    refine wpAny_pure ?_
    show wpAny _ _ (if ((1 : Int) == 0 && (-1 : Int) == 1 && (2 : Nat) == 2) = true then _ else _) _ _ s
    rw [if_neg (by decide)]
    show wpAny _ _ (Builtin.Tuple.tupleExact ((List.range (Builtin.Slice.slicePlaces 1 (-1) (-1))).filterMap fun (k : Nat) => (#[x, y] : Array Value)[((1 : Int) + (k : Int) * (-1)).toNat]?).toArray >>= fun v => ret v) _ _ s
    have e0 : Builtin.Slice.slicePlaces 1 (-1) (-1) = 2 := by decide
    have e1 : ((List.range (Builtin.Slice.slicePlaces 1 (-1) (-1))).filterMap fun (k : Nat) => (#[x, y] : Array Value)[((1 : Int) + (k : Int) * (-1)).toNat]?).toArray = #[y, x] := by
      rw [e0]
      rfl
    rw [e1]
    have hk : sizeOk (.seq #[y, x]) := by show 2 ≤ sizeLine; decide
    first
      | exact wpAny_bind (m := Builtin.Tuple.tupleExact _) (wpAny_newObj_type (wpAny_pure ⟨_, rfl, wpAny_pure h⟩) hk)
      | exact wpAny_bind (m := Builtin.Tuple.tupleExact _) (wpAny_newObj_type (wpAny_bind (wpAny_pure (wpAny_pure ⟨_, rfl, wpAny_pure h⟩))) hk)
end
section
variable {X : Cx}
def tRev2 (K : PySem.W.Frag) (te : TE) : TE := fun σ H Q => te σ H fun x H1 => ∃ a u v, x = .ref a ∧ SqT K H1 a [u, v] ∧ ∀ p, H1 p = none → Q (.ref p) (upd H1 p (.tup [v, u]))
theorem pe_rev2 {e : Expr} {te : TE} {k : Nat} {p1 p2 p3 pos : Pos} (he : PE X e te) : PE X (.Subscript e (.Slice none none (some (.UnaryOp .USub (.Constant (.int 1) k p1) p2)) p3) pos) (tRev2 X.K te) := by
  refine ⟨fun pins s σ H Q I h => ?_⟩
  refine Subscript_ (thn (he.run pins s σ H _ I h) fun v s1 ⟨x, H1, I1, r1, q1⟩ => ?_)
  obtain ⟨a, u0, v0, ex, hx, q⟩ := q1
  subst ex
  cases r1
  have hst : PO X (some (.UnaryOp .USub (.Constant (.int 1) k p1) p2)) (tPart (tUn (rU fun i => .int (-i)) (tC (.int 1)))) := po_some (pe_un un_neg pe_int)
  refine wpAny_Slice (thn (po_none.run pins s1 σ H1 (fun o H2 => o = none ∧ H2 = H1) I1 ⟨rfl, rfl⟩) fun vl s2 ⟨l, H2, I2, pl, el, e2⟩ => ?_)
  subst el e2
  refine thn (po_none.run pins s2 σ H2 (fun o H3 => o = none ∧ H3 = H2) I2 ⟨rfl, rfl⟩) fun vu s3 ⟨u, H3, I3, pu, eu, e3⟩ => ?_
  subst eu e3
  refine thn (hst.run pins s3 σ H3 (fun o H4 => o = some (-1) ∧ H4 = H3) I3 ⟨1, rfl, -1, rfl, rfl, rfl⟩) fun vs s4 ⟨o, H4, I4, ps, eo, e4⟩ => ?_
  subst eo e4
  have I5 : Inv X pins σ H4 { s4 with heap := s4.heap.push { cls := .type "slice", data := .fields #[vl, vu, vs] } } := I4.kept (t' := s4.toks) fun b ob q => Heap.get?_push_of_some _ q
  obtain ⟨its, r, ht, hz⟩ := I5.tuple hx
  cases pl
  cases pu
  cases r with
  | cons ra rb =>
    cases rb with
    | cons rb rc =>
      cases rc
      rename_i ua ub
      show wpAny (model X.prog X.w) X.A (subscriptTail e (.Slice none none (some (.UnaryOp .USub (.Constant (.int 1) k p1) p2)) p3) (.ref a) (.ref s4.heap.objs.size)) (EP X pins σ Q) X.xe { s4 with heap := s4.heap.push { cls := .type "slice", data := .fields #[.none, .none, vs] } }
      refine tail_any (ops := [.ref a, .ref s4.heap.objs.size]) ht.typeIs (PyProof.Rows.slot_tuple_getitem.lookup) ?_ (by with_unfolding_all rfl)
      refine getItem_rev2 ht (Heap.IsSliceOf.new _ .none .none vs) ps ?_
      refine ⟨.ref _, _, I5.laid (t' := s4.toks) (o := .tup [v0, u0]) (fun b ob q => Heap.get?_push_of_some _ q) (Nat.le_refl _) ?_, rfl, q _ (I5.hok.fresh (Nat.le_refl _))⟩
      exact ⟨by show 2 ≤ sizeLine; decide, [ub, ua], .cons rb (.cons ra .nil), ⟨_, Heap.get?_push_size _ rfl, rfl, _, rfl⟩⟩
end
end L2

namespace L2
open PySem PySem.Spec PyProof.Rows HT
section
variable {X : Cx}
/-- {k: v}, k a tuple of ints and texts -/
def tDispT (tk tv : TE) : TE := fun σ H Q => ∀ p, H p = none → tk σ (upd H p (.dT [])) fun x H1 => tv σ H1 fun y H2 => H2 p = some (.dT []) ∧ ∃ (k : List Key) (b : Addr), x = .ref b ∧ H2 b = some (.tup (k.map kV)) ∧ Q (.ref p) (upd H2 p (.dT [(k, y)]))
theorem pe_dispT {k v : Expr} {tk tv : TE} {pos : Pos} (hu : X.A.units + 1 < cLine) (hk : PE X k tk) (hv : PE X v tv) : PE X (.Dict [some k] [v] pos) (tDispT tk tv) := by
  refine ⟨fun pins s σ H Q I q => ?_⟩
  have hn := I.hok.fresh (Nat.le_refl s.heap.objs.size)
  have I1 := I.laid (a := s.heap.objs.size) (o := .dT []) (h' := s.heap.push { cls := .type "dict", data := .dict #[] }) (t' := s.toks) (fun _ _ q => Heap.get?_push_of_some _ q) (Nat.le_refl _) (dt_empty s.heap I.big)
  have hr : (tupleKind (mixKind X.prog X.w)).room X.A := Nat.lt_of_succ_lt hu
  rw [arm_eval_Dict, zip_pairTrees [some k] [v] X.env pos rfl rfl, dictDisplay_pairs (pairTrees [some k] [v] X.env pos) (fun e => by cases e) (by show 1 < _; decide)]
  refine wpAny_bind (wpAny_standAt (wpAny_bind (wpAny_subDictH (knd := tupleKind (mixKind X.prog X.w)) (Q := fun d s' => wpAny (model X.prog X.w) X.A (pure (Value.ref d)) (EP X pins σ Q) X.xe s') hr (by show 1 ≤ 15; decide) ?_)))
  refine pairTrees_cons_walk (thn (hk.run pins _ σ _ _ I1 (q _ hn)) fun u s1 ⟨x, H1, I1, rx, q1⟩ => thn (hv.run pins s1 σ H1 _ I1 q1) fun w2 s2 ⟨y, H2, I2, ry, e, ks, b, ex, hb, q2⟩ => pairTrees_nil_walk ?_)
  subst ex
  cases (show u = Value.ref b from rx)
  obtain ⟨z, hd, xs0, r0, dd⟩ := dt_of I2.hok e
  cases r0
  refine ⟨[(ks, b, w2)], ⟨rfl, rfl, key_of I2.hok hb, trivial⟩, dd, fun h' tk' dd' hs => wpAny_pure ⟨.ref s.heap.objs.size, _, ?_, rfl, q2⟩⟩
  obtain ⟨o, es, ep', ho, hc, hdt, he, hi, hnd⟩ := dd'
  have ht : ∀ c ys, H2 c = some (.tup ys) → upd H2 s.heap.objs.size (.dT [(ks, y)]) c = some (.tup ys) := fun c ys ec => by
    rw [upd_ne (ne_of ec e (fun z => nomatch z))]
    exact ec
  exact d_write I2 (by rw [e]; exact True.intro) hs ⟨o, ho⟩ ⟨by show 1 ≤ sizeLine; decide, hd, [(ks, b, w2)], .cons ⟨rfl, ht _ _ hb, ry⟩ .nil, o, es, ep', ho, hc, hdt, he, hnd⟩
end
end L2

namespace L2
open PySem PySem.Spec PyProof.Rows HT
/-- a tuple that has no dict of its own (so dict() takes it) -/
def PlT (H : Hp) (a : Addr) (xs : List V) : Prop := ∃ o : Obj, o.dict = none ∧ H a = some (.frz o (.tup xs))
theorem PlT.sq {K : PySem.W.Frag} {H : Hp} {a : Addr} {xs : List V} (h : PlT H a xs) : SqT K H a xs := by
  obtain ⟨o, _, e⟩ := h
  exact .inl (.inr ⟨o, e⟩)
def mergeT (kvs more : List (List Key × V)) : List (List Key × V) := more.foldl (fun acc kv => putK acc kv.1 kv.2) kvs
theorem KT.merge {H : Hp} : ∀ {more : List (List Key × V)} {rs : List (List Key × Addr × Value)} {kvs : List (List Key × V)} {xs : List (List Key × Addr × Value)}, KT H more rs → KT H kvs xs → KT H (mergeT kvs more) (storedAllH xs rs)
  | _, _, _, _, .nil, k => k
  | _, _, kvs, xs, .cons (a := p) (b := q) (l₁ := ps) (l₂ := qs) h t, k => by
    obtain ⟨h1, h2, h3⟩ := h
    have e : KT H (putK kvs p.1 p.2) (storedH xs q.1 q.2.1 q.2.2) := by
      rw [← h1]
      exact k.put p.1 h2 h3
    show KT H (mergeT (putK kvs p.1 p.2) ps) (storedAllH (storedH xs q.1 q.2.1 q.2.2) qs)
    exact KT.merge t e
theorem length_mergeT : ∀ (more kvs : List (List Key × V)), (mergeT kvs more).length ≤ kvs.length + more.length
  | [], kvs => by show kvs.length ≤ kvs.length + 0; omega
  | p :: r, kvs => by
    have h1 := length_mergeT r (putK kvs p.1 p.2)
    have h2 := length_putK kvs p.1 p.2
    show (mergeT (putK kvs p.1 p.2) r).length ≤ _
    rw [List.length_cons]; omega
/-- the pairs of a list, their keys tuples -/
abbrev PrsT (H : Hp) : List Addr → List (List Key × V) → Prop := Paired fun p kv => ∃ b, H p = some (.tup [.ref b, kv.2]) ∧ H b = some (.tup (kv.1.map kV))
section
variable {X : Cx}
theorem pairsT_of {pins : List (Addr × Obj)} {σ : St} {H : Hp} {s : Shared} (I : Inv X pins σ H s) : ∀ {ps : List Addr} {kvs : List (List Key × V)}, PrsT H ps kvs →
    ∃ rs : List (List Key × Addr × Value), KT H kvs rs ∧ rs.length = ps.length ∧ ∀ (j : Nat) (x : List Key × Addr × Value), rs[j]? = some x → ∃ p : Addr, ps[j]? = some p ∧ s.heap.IsTuple p #[.ref x.2.1, x.2.2] ∧ (tupleKind (mixKind X.prog X.w)).is s.heap x.1 x.2.1
  | _, _, .nil => ⟨[], .nil, rfl, fun j q e => by simp at e⟩
  | _, _, .cons (a := p) (b := kv) h t => by
    obtain ⟨rs, r, hl, hp⟩ := pairsT_of I t
    obtain ⟨b, h1, h2⟩ := h
    obtain ⟨its, rv, ht, _⟩ := I.tuple (X := X) (SqT.of h1)
    obtain ⟨u, y, ei, ru, ry⟩ := vals2 rv
    subst ei
    cases (show u = Value.ref b from ru)
    refine ⟨(kv.1, b, y) :: rs, .cons ⟨rfl, h2, ry⟩ r, by rw [List.length_cons, List.length_cons, hl], fun j q e => ?_⟩
    cases j with
    | zero =>
      have e' : (kv.1, b, y) = q := Option.some.inj e
      subst e'
      exact ⟨p, rfl, ht, key_of I.hok h2⟩
    | succ j =>
      obtain ⟨p', e1, e2, e3⟩ := hp j q (by simpa using e)
      exact ⟨p', by simpa using e1, e2, e3⟩
theorem call_dictT (hcalm : X.calm = true) (hu : X.A.units + 2 < cLine) : CallR X (.type "dict") (fun xs H Q => ∃ (a : Addr) (ps : List Addr) (kvs : List (List Key × V)), xs = [.ref a] ∧ (SqL X.K H a (ps.map V.ref) ∨ PlT H a (ps.map V.ref)) ∧ PrsT H ps kvs ∧
    ∀ p, H p = none → Q (.ref p) (upd H p (.dT (mergeT [] kvs)))) := by
  intro pins s σ H xs us Q I r q
  obtain ⟨a, ps, kvs, ex, hq, hp, q⟩ := q
  subst ex
  obtain ⟨u, eu, rx⟩ := vals1 r
  subst eu
  cases rx
  obtain ⟨rs, rel, hl, hrs⟩ := pairsT_of I hp
  have hr : (tupleKind (mixKind X.prog X.w)).room X.A.in1.in1 := hu
  have hrange : ∀ (its : List Value), Vals (ps.map V.ref) its → PairItems s.heap its.toArray (fun j => ps.getD j 0) (rs.map fun x => (Value.ref x.2.1, x.2.2)) := fun its rv => by
    have ei := refs_at rv
    subst ei
    refine ⟨by simp [hl], fun j k v hj => ?_⟩
    rw [List.getElem?_map] at hj
    cases e : rs[j]? with
    | none => rw [e] at hj; cases hj
    | some x =>
      rw [e] at hj
      have e2 : (Value.ref x.2.1, x.2.2) = (k, v) := Option.some.inj hj
      obtain ⟨p, hpj, ht, _⟩ := hrs j x e
      injection e2 with e3 e4
      subst e3 e4
      refine ⟨?_, .inl ?_⟩
      · simp [hpj]
      · have : ps.getD j 0 = p := by rw [List.getD_eq_getElem?_getD, hpj]; rfl
        show s.heap.IsTuple (ps.getD j 0) _
        rw [this]
        exact ht
  have hhave : PairsHaveH (tupleKind (mixKind X.prog X.w)) (rs.map fun x => (Value.ref x.2.1, x.2.2)).length (PairRel (rs.map fun x => (Value.ref x.2.1, x.2.2))) rs := ⟨by simp, fun i key v h => by
    have h' : (rs.map fun x => (Value.ref x.2.1, x.2.2))[i]? = some (key, v) := h
    rw [List.getElem?_map] at h'
    cases e : rs[i]? with
    | none => rw [e] at h'; cases h'
    | some x =>
      rw [e] at h'
      have e2 : (Value.ref x.2.1, x.2.2) = (key, v) := Option.some.inj h'
      injection e2 with e3 e4
      subst e3 e4
      exact ⟨x.1, x.2.1, rfl, rfl⟩⟩
  have hst : KeysStay (tupleKind (mixKind X.prog X.w)) s.heap s.heap.objs.size [] rs := fun h' hk x hx => by
    obtain ⟨j, hj⟩ := List.mem_iff_getElem?.mp hx
    obtain ⟨p, _, _, hi⟩ := hrs j x hj
    exact tupleKind_stays.stays (fun b o vs m e _ => hk b o (Nat.ne_of_lt (Heap.lt_size e)) (fun z => nomatch z) e) hi
  have fin : ∀ (hz : ps.length ≤ sizeLine) (h' : Heap) (tk : Nat), h'.DictOfH (tupleKind (mixKind X.prog X.w)) s.heap.objs.size (storedAllH [] rs) → (∀ b o, b ∉ ([] : List Addr) → s.heap.get? b = some o → h'.get? b = some o) →
      EP X pins σ Q (.ref s.heap.objs.size) { s with heap := h', toks := tk } := fun hz h' tk hd' k => by
    have hm : (s.heap.objs.size == sysModules) = false := beq_eq_false_iff_ne.mpr (Nat.ne_of_gt I.big)
    have hlen : (mergeT [] kvs).length ≤ sizeLine := by
      refine Nat.le_trans (length_mergeT kvs []) ?_
      have := Paired.length rel
      rw [List.length_nil, Nat.zero_add, this, hl]
      exact hz
    have hf := I.hok.fresh (Nat.le_refl s.heap.objs.size)
    obtain ⟨o, es, ep, ho, hc, hdt, he, hi, hnd⟩ := hd'
    refine ⟨.ref s.heap.objs.size, upd H s.heap.objs.size (.dT (mergeT [] kvs)), I.laid (t' := tk) (fun b u e => k b u (fun z => nomatch z) e) (Nat.le_refl _) ?_, rfl, q _ hf⟩
    exact ⟨hlen, hm, storedAllH [] rs, (KT.merge rel .nil).keeps (fun c ys ec => by rw [upd_ne (ne_of_none ec hf)]; exact ec), o, es, ep, ho, hc, hdt, he, hnd⟩
  rcases hq with hq | ⟨o, hod, hq⟩
  · obtain ⟨its, rv, pl, hz⟩ := I.list hq
    rw [List.length_map] at hz
    obtain ⟨o, n, ho, hc, hd, hdat⟩ := pl
    have hpi := hrange its rv
    exact call_dict_pairsH (PairArg.list a its.toArray (fun j => ps.getD j 0) (rs.map fun x => (Value.ref x.2.1, x.2.2))) (I.ok.hd hcalm) hr ⟨⟨o, _, ho, hc, hd, hdat⟩, hpi⟩ hhave hst (by rw [List.length_map, hl]; exact hz) (fin hz)
  · obtain ⟨ho, hz, its, rv, ht⟩ := (show ObjOk X.prog X.w H s.heap a (.frz o (.tup (ps.map V.ref))) from I.hok a _ hq)
    rw [List.length_map] at hz
    obtain ⟨o', ho', hc, n, hdat⟩ := ht
    rw [ho] at ho'
    have eo : o = o' := Option.some.inj ho'
    subst eo
    have hpi := hrange its rv
    exact call_dict_pairsH (PairArg.tuple a its.toArray (fun j => ps.getD j 0) (rs.map fun x => (Value.ref x.2.1, x.2.2))) (I.ok.hd hcalm) hr ⟨⟨o, _, ho, hc, hod, hdat⟩, hpi⟩ hhave hst (by rw [List.length_map, hl]; exact hz) (fin hz)
end
end L2

namespace L2
open PySem PySem.Spec PyProof.Rows HT
/-- pairs keyed by tuples of ints -/
def asg (ps : List (List Int × V)) : List (List Key × V) := ps.map fun p => (p.1.map Sum.inl, p.2)
theorem ck_kV (c : List Int) : (c.map (Sum.inl : Int → Key)).map kV = c.map V.int := by rw [List.map_map]; rfl
theorem ck_inj {a b : List Int} (h : a.map (Sum.inl : Int → Key) = b.map Sum.inl) : a = b := by
  have := congrArg (List.map kV) h
  rw [ck_kV, ck_kV] at this
  induction a generalizing b with
  | nil => cases b with
    | nil => rfl
    | cons _ _ => cases this
  | cons x a ih => cases b with
    | nil => cases this
    | cons y b =>
      simp only [List.map_cons] at this h
      injection this with h1 h2
      injection h with h3 h4
      injection h1 with h5
      rw [h5, ih h4 h2]
theorem reads_ints {h : Heap} : ∀ {c : List Int} {its : List Value}, Vals (c.map V.int) its → ReadsAll h its (c.map .int) []
  | [], _, r => by
    rw [List.map_nil] at r
    cases r
    exact .nil
  | x :: c, _, r => by
    rw [List.map_cons] at r
    cases r with
    | cons a b =>
      obtain ⟨t, rfl⟩ := a
      exact .cons (as := []) (.int x t) (reads_ints b)
theorem tup_lt_ints (xs ys : List Int) : PySem.W.dataLt (.tuple (xs.map .int)) (.tuple (ys.map .int)) = decide (xs < ys) := by
  rw [PySem.W.dataLt_tuple]
  exact PySem.W.dataLt_ints xs ys
theorem tup_le_ints {β : Type} (x : β → List Int) : PySem.W.dataLe false (fun b => .tuple ((x b).map .int)) = fun p q => decide (x p ≤ x q) := by
  funext p q
  show (!PySem.W.dataLt (.tuple ((x q).map .int)) (.tuple ((x p).map .int))) = _
  rw [tup_lt_ints]
  by_cases h : x q < x p
  · have h' : ¬ x p ≤ x q := fun r => List.not_lt.mpr r h
    simp [h, h']
  · have h' : x p ≤ x q := List.not_lt.mp h
    simp [h, h']
theorem eachIs_of {α β : Type} {R : α → β → Prop} : ∀ {l : List α} {m : List β}, l.length = m.length → (∀ (i : Nat) (a : α) (b : β), l[i]? = some a → m[i]? = some b → R a b) → PySem.W.EachIs R l m
  | [], [], _, _ => .nil
  | [], _ :: _, h, _ => by simp at h
  | _ :: _, [], h, _ => by simp at h
  | a :: l, b :: m, h, f => .cons (f 0 a b rfl rfl) (eachIs_of (by simpa using h) fun i x y h1 h2 => f (i + 1) x y (by simpa using h1) (by simpa using h2))
theorem eachIs_map {α β : Type} {f : β → α} : ∀ {l : List α} {m : List β}, PySem.W.EachIs (fun a b => a = f b) l m → l = m.map f
  | _, _, .nil => rfl
  | _, _, .cons h t => by rw [List.map_cons, ← eachIs_map t, h]
theorem paired_at {α β : Type} {R : α → β → Prop} : ∀ {l : List α} {m : List β} {i : Nat} {b : β}, Paired R l m → m[i]? = some b → ∃ a, l[i]? = some a ∧ R a b
  | _, _, _, _, .nil, e => by simp at e
  | _, _, 0, b, .cons (a := a) h t, e => ⟨a, rfl, (Option.some.inj e) ▸ h⟩
  | _, _, i + 1, b, .cons h t, e => by
    obtain ⟨a, h1, h2⟩ := paired_at (i := i) t (by simpa using e)
    exact ⟨a, by simpa using h1, h2⟩
section
variable {X : Cx}
/-- sorted(d), the keys tuples of ints -/
theorem call_sortedT (hcalm : X.calm = true) (hu : X.A.units + 10 < cLine) : CallR X (.builtin "sorted") (fun xs H Q => ∃ (a : Addr) (ps : List (List Int × V)), xs = [.ref a] ∧ Rd H a (.dT (asg ps)) ∧ (∀ p ∈ ps, p.1 ≠ []) ∧
    ∀ (bs : List (List Int × Addr)) (p : Addr), (bs.map (·.1)).Perm (ps.map (·.1)) → (bs.map (·.1)).Pairwise (· ≤ ·) → (∀ b ∈ bs, H b.2 = some (.tup (b.1.map V.int))) → H p = none → Q (.ref p) (upd H p (.lst (bs.map fun b => V.ref b.2)))) := by
  intro pins s σ H xs us Q I r q
  obtain ⟨a, ps, ex, hd, hne, q⟩ := q
  subst ex
  obtain ⟨u, eu, rx⟩ := vals1 r
  subst eu
  cases rx
  obtain ⟨z, hs, ks, pr, o, es, ep, ho, hx, hdt, he, hn⟩ := (show ObjOk X.prog X.w H s.heap a (.dT (asg ps)) from hd.ok I.hok)
  have l1 : es.size = ks.length := size_of_entries he
  have l2 : (asg ps).length = ks.length := Paired.length pr
  have l3 : (asg ps).length = ps.length := by unfold asg; rw [List.length_map]
  -- the keys and where they stand
  obtain ⟨as, eas⟩ : ∃ as : List (List Int × Addr), as = (ps.zip ks).map fun p => (p.1.1, p.2.2.1) := ⟨_, rfl⟩
  have lz : as.length = ps.length := by rw [eas, List.length_map, List.length_zip, ← l2, l3]; exact Nat.min_self _
  have has : ∀ (i : Nat) (b : List Int × Addr), as[i]? = some b → ∃ p k, ps[i]? = some p ∧ ks[i]? = some k ∧ b = (p.1, k.2.1) ∧ H k.2.1 = some (.tup (p.1.map V.int)) := by
    intro i b hb
    rw [eas, List.getElem?_map] at hb
    cases hz : (ps.zip ks)[i]? with
    | none => rw [hz] at hb; cases hb
    | some w =>
      rw [hz] at hb
      have eb : (w.1.1, w.2.2.1) = b := Option.some.inj hb
      obtain ⟨h1, h2⟩ := List.getElem?_zip_eq_some.mp hz
      obtain ⟨p0, hp0, r1, r2, r3⟩ := paired_at pr h2
      have hp1 : (asg ps)[i]? = some (w.1.1.map Sum.inl, w.1.2) := by
        unfold asg
        rw [List.getElem?_map, h1]
        rfl
      rw [hp1] at hp0
      have ep0 := Option.some.inj hp0
      subst ep0
      refine ⟨w.1, w.2, h1, h2, eb.symm, ?_⟩
      have r2' : H w.2.2.1 = some (.tup ((w.1.1.map (Sum.inl : Int → Key)).map kV)) := r2
      rw [ck_kV] at r2'
      exact r2'
  have hfst : as.map (·.1) = ps.map (·.1) := by
    apply List.ext_getElem?
    intro i
    rw [List.getElem?_map, List.getElem?_map]
    cases hb : as[i]? with
    | none =>
      have := List.getElem?_eq_none_iff.mp hb
      rw [List.getElem?_eq_none (by omega)]
      rfl
    | some b =>
      obtain ⟨p, k, h1, _, h3, _⟩ := has i b hb
      rw [h1, h3]
      rfl
  refine Calls.call_function_entry PyProof.Rows.kind_sorted PyProof.Rows.plain_sorted PyProof.Rows.entry_sorted (PyProof.Rows.args_sorted1 _) ?_
  unfold Builtin.«sorted»
  refine wpAny_bind (m := checkCount "sorted" 1 1 _) (wpAny_pure ?_)
  refine wpAny_bind (PySem.W.kdu_collect (A := X.A.in1) (kdl_raw hs hx hdt) (I.ok.hd hcalm) ho (by omega) fun h' tk acc hk hacc => ?_)
  have hal : acc.toList.length = as.length := by rw [Array.length_toList, hacc.1, l1, lz, ← l3, l2]
  have hval : acc.toList = as.map fun b => Value.ref b.2 := by
    apply List.ext_getElem?
    intro j
    rw [List.getElem?_map]
    cases hj : acc.toList[j]? with
    | none =>
      have h1 := List.getElem?_eq_none_iff.mp hj
      rw [List.getElem?_eq_none (by omega)]
      rfl
    | some v =>
      obtain ⟨en, hen, hv⟩ := hacc.2 j v (by rw [← Array.getElem?_toList]; exact hj)
      have qe := entry_at he j
      rw [hen] at qe
      cases hb : ks[j]? with
      | none =>
        rw [hb] at qe
        exact nomatch (show some en = none from qe)
      | some b =>
        rw [hb] at qe
        have e2 : en = entryOfKey (tupleKind (mixKind X.prog X.w)) b := Option.some.inj qe
        have hlt : j < as.length := by
          have := (List.getElem?_eq_some_iff.mp hj).1
          omega
        obtain ⟨p, k, h1, h2, h3, _⟩ := has j as[j] (List.getElem?_eq_getElem hlt)
        rw [hb] at h2
        have e3 := Option.some.inj h2
        subst e3
        rw [List.getElem?_eq_getElem hlt, hv, e2, h3]
        rfl
  have I1 : Inv X pins σ H { s with heap := h', toks := tk } := I.kept hk
  refine wpAny_bind (wpAny_newList ?_ (by rw [hal, lz, ← l3]; exact z))
  have hoL : (h'.push (seqObj "list" acc.toList.toArray 0)).get? h'.objs.size = some (seqObj "list" acc.toList.toArray 0) := Heap.get?_push_size _ rfl
  show wpAny _ _ _ _ _ { s with heap := h'.push (seqObj "list" acc.toList.toArray 0), toks := tk }
  have k2 : ∀ b o, h'.get? b = some o → (h'.push (seqObj "list" acc.toList.toArray 0)).get? b = some o := fun b o e => Heap.get?_push_of_some _ e
  have I2 : Inv X pins σ H { s with heap := h'.push (seqObj "list" acc.toList.toArray 0), toks := tk } := I1.kept (t' := tk) k2
  have hreads : ∀ b ∈ as, Reads (h'.push (seqObj "list" acc.toList.toArray 0)) (.ref b.2) (.tuple (b.1.map .int)) [] := fun b hb => by
    obtain ⟨i, hi⟩ := List.mem_iff_getElem?.mp hb
    obtain ⟨p, k, _, _, h3, h4⟩ := has i b hi
    have h5 : H b.2 = some (.tup (b.1.map V.int)) := by rw [h3]; exact h4
    obtain ⟨_, its, rv, ot, hot, hct, nt, hdt'⟩ := (show ObjOk X.prog X.w H (h'.push (seqObj "list" acc.toList.toArray 0)) b.2 (.tup (b.1.map V.int)) from I2.hok b.2 _ h5)
    exact Reads.tuple hot hct hdt' (reads_ints rv)
  have er : PySem.W.EachIs (fun v b => ∃ as', Reads (h'.push (seqObj "list" acc.toList.toArray 0)) v (.tuple (b.1.map .int)) as' ∧ h'.objs.size ∉ as') acc.toList as := eachIs_of hal fun i v b hv hb => by
    rw [hval, List.getElem?_map, hb] at hv
    have := Option.some.inj hv
    subst this
    exact ⟨[], hreads b (List.mem_of_getElem? hb), fun m => nomatch m⟩
  have eR : PySem.W.EachIs (fun v (b : List Int × Addr) => v = Value.ref b.2) acc.toList as := eachIs_of hal fun i v b hv hb => by
    rw [hval, List.getElem?_map, hb] at hv
    exact (Option.some.inj hv).symm
  have hnn : ∀ b ∈ as, b.1 ≠ [] := fun b hb => by
    obtain ⟨i, hi⟩ := List.mem_iff_getElem?.mp hb
    obtain ⟨p, k, h1, _, h3, _⟩ := has i b hi
    rw [h3]
    exact hne p (List.mem_of_getElem? h1)
  have hall : PySem.W.AllAlike (as.map fun b => PyData.tuple (b.1.map .int)) := PySem.W.AllAlike.of (enc := fun b : List Int × Addr => PyData.tuple (b.1.map .int)) fun b b' => by
    show PySem.W.alike (.tuple (b.1.map .int)) (.tuple (b'.1.map .int)) = true
    rw [PySem.W.alike]
    exact PySem.W.alike_ints _ _
  have hso : PySem.W.Sortable (as.map fun b => PyData.tuple (b.1.map .int)) := .inl fun d hd => by
    obtain ⟨b, hb, rfl⟩ := List.mem_map.mp hd
    cases e : b.1 with
    | nil => exact absurd e (hnn b hb)
    | cons x r => exact ⟨.int x, r.map .int, rfl⟩
  refine wpAny_bind (wpAny_holding (PySem.W.list_sort_data (s := { s with heap := h'.push (seqObj "list" acc.toList.toArray 0), toks := tk }) (vs := acc.toList) (bs := as) (enc := fun b : List Int × Addr => PyData.tuple (b.1.map .int)) (R := fun v b => v = Value.ref b.2) hoL eR er hall hso (by rw [lz, ← l3]; exact z) (fun b hb => ?_) fun out hout hE => ?_))
  · show X.A.in1.units + 1 + (PyData.tuple (b.1.map .int)).depth < cLine
    have e : (PyData.tuple (b.1.map .int)).depth ≤ 1 := by
      rw [PyData.depth, PySem.W.depth_ints]
      omega
    have e2 : X.A.in1.units ≤ X.A.units + 1 := Nat.le_refl _
    omega
  have hms : as.mergeSort (PySem.W.dataLe false fun b : List Int × Addr => PyData.tuple (b.1.map .int)) = as.mergeSort (fun p q => decide (p.1 ≤ q.1)) := by
    rw [tup_le_ints (fun b : List Int × Addr => b.1)]
  rw [hms] at hE
  obtain ⟨bs, ebs⟩ : ∃ bs, bs = as.mergeSort (fun p q => decide (p.1 ≤ q.1)) := ⟨_, rfl⟩
  rw [← ebs] at hE
  have hperm : bs.Perm as := by rw [ebs]; exact List.mergeSort_perm _ _
  have hpw : bs.Pairwise (fun p q => decide (p.1 ≤ q.1) = true) := by
    rw [ebs]
    refine List.pairwise_mergeSort (fun p q r h1 h2 => ?_) (fun p q => ?_) _
    · exact decide_eq_true (List.le_trans (of_decide_eq_true h1) (of_decide_eq_true h2))
    · rcases List.le_total p.1 q.1 with h | h
      · rw [decide_eq_true h]; rfl
      · rw [decide_eq_true h, Bool.or_true]
  have hout2 : out = bs.map fun b => Value.ref b.2 := eachIs_map (f := fun b : List Int × Addr => Value.ref b.2) hE
  obtain ⟨e', he'⟩ := PyProof.Rows.sortedHeap_at (vs := acc.toList) (out := List.toArray out) hoL
  have hlen : (bs.map fun b => V.ref b.2).length ≤ sizeLine := by
    rw [List.length_map, hperm.length_eq, lz, ← l3]
    exact z
  have hf : H h'.objs.size = none := I1.hok.fresh (Nat.le_refl _)
  refine wpAny_pure ⟨_, rfl, .ref h'.objs.size, upd H h'.objs.size (.lst (bs.map fun b => V.ref b.2)), I1.laid (t' := tk) (fun b u e => ?_) (Nat.le_refl _)
    (show ObjOk X.prog X.w _ _ _ (.lst (bs.map fun b => V.ref b.2)) from ⟨hlen, out, e', ?_, he'⟩), rfl, q bs _ ?_ ?_ (fun b hb => ?_) hf⟩
  · have hb : b < h'.objs.size := Heap.lt_size e
    rw [PyProof.Rows.sortedHeap_old (Nat.ne_of_lt hb) (by rw [size_push']; exact Nat.lt_succ_of_lt hb)]
    exact Heap.get?_push_of_some _ e
  · rw [hout2]
    have : ∀ l : List (List Int × Addr), Vals (l.map fun b => V.ref b.2) (l.map fun b => Value.ref b.2) := fun l => by
      induction l with
      | nil => exact .nil
      | cons x l ih => exact .cons rfl ih
    exact this bs
  · have := hperm.map (fun b : List Int × Addr => b.1)
    rw [hfst] at this
    exact this
  · rw [List.pairwise_map]
    exact hpw.imp fun h => of_decide_eq_true h
  · obtain ⟨i, hi⟩ := List.mem_iff_getElem?.mp (hperm.mem_iff.mp hb)
    obtain ⟨p, k, _, _, h3, h4⟩ := has i b hi
    rw [h3]
    exact h4
end
end L2

namespace L2
open PySem PySem.Spec PyProof.Rows HT
/-- a new plain tuple: what follows it -/
def NewP (H : Hp) (xs : List V) (Q : VK) : Prop := ∀ (p : Addr) (o : Obj), o.dict = none → H p = none → Q (.ref p) (upd H p (.frz o (.tup xs)))
theorem PlT.new {H : Hp} {p : Addr} {o : Obj} {xs : List V} (h : o.dict = none) : PlT (upd H p (.frz o (.tup xs))) p xs := ⟨o, h, upd_same⟩
section
variable {X : Cx} {pins : List (Addr × Obj)} {σ : St} {H : Hp} {s : Shared}
theorem laidP {its : List Value} {xs : List V} {h' : Heap} {t' : Nat} {Q : VK} (I : Inv X pins σ H { s with heap := h', toks := t' }) (r : Vals xs its) (hz : xs.length ≤ sizeLine) (q : NewP H xs Q) :
    EP X pins σ Q (.ref h'.objs.size) { s with heap := h'.push { cls := .type "tuple", data := .seq its.toArray }, toks := t' } := by
  refine ⟨.ref h'.objs.size, _, I.laid (t' := t') (o := .frz { cls := .type "tuple", data := .seq its.toArray } (.tup xs)) (fun b o e => Heap.get?_push_of_some _ e) (Nat.le_refl _) ?_, rfl, q _ _ rfl (I.hok.fresh (Nat.le_refl _))⟩
  exact ⟨Heap.get?_push_size _ rfl, hz, its, r, IsTup.new _ _⟩
/-- tuple(list), told as plain -/
theorem call_tupleP : CallR X (.type "tuple") (fun xs H Q => ∃ p ys, xs = [.ref p] ∧ SqL X.K H p ys ∧ NewP H ys Q) := by
  intro pins s σ H xs us Q I r h
  obtain ⟨p, ys, rfl, hs, q⟩ := h
  obtain ⟨u, rfl, ru⟩ := vals1 r
  cases ru
  obtain ⟨its, rv, pl, hz⟩ := I.list hs
  refine call_tuple_list pl.isList (fun h' hk => ?_) (by rw [List.size_toArray, ← rv.length]; exact hz)
  exact laidP (s := s) (t' := s.toks) (I.kept (t' := s.toks) hk) rv hz q
/-- t + u of plain ones -/
def rCatP (K : PySem.W.Frag) : R2 := fun x y H Q => ∃ a b xs ys, x = .ref a ∧ y = .ref b ∧ PlT H a xs ∧ PlT H b ys ∧ xs.length + ys.length ≤ sizeLine ∧
  (xs = [] → Q (.ref b) H) ∧ (xs ≠ [] → ys = [] → Q (.ref a) H) ∧ (xs ≠ [] → ys ≠ [] → NewP H (xs ++ ys) Q)
theorem op_catP : OpR X (binaryOp .Add) (rCatP X.K) := by
  intro pins s σ H x y v u Q I rx ry h
  obtain ⟨a, b, xs, ys, rfl, rfl, ha, hb, hz, q0, q1, q2⟩ := h
  cases rx
  cases ry
  obtain ⟨its, r1, p1, _⟩ := I.tuple (X := X) ha.sq
  obtain ⟨its2, r2, p2, _⟩ := I.tuple (X := X) hb.sq
  by_cases hx : xs = []
  · subst hx
    cases r1
    exact cat_tup0 p1 p2 ⟨.ref b, H, I, rfl, q0 rfl⟩
  · refine HT.cat_tup p1 p2 (fun z => hx (r1.nil_iff.mp z)) (fun z => ⟨.ref a, H, I, rfl, q1 hx (r2.nil_iff.mp z)⟩) (fun z => ?_) (by rw [← r1.length, ← r2.length]; exact hz)
    exact laidP (s := s) (t' := s.toks) (h' := s.heap) I (r1.append r2) (by rw [List.length_append]; exact hz) (q2 hx (fun w => z (r2.nil_iff.mpr w)))
/-- t[lo:hi] of a plain one -/
def rSlP : V → Option Int → Option Int → Hp → VK → Prop := fun x lo hi H Q => ∃ a xs, x = .ref a ∧ PlT H a xs ∧
  (HT.sIx xs.length 0 lo = 0 ∧ HT.sIx xs.length xs.length hi = xs.length → Q (.ref a) H) ∧ (¬ (HT.sIx xs.length 0 lo = 0 ∧ HT.sIx xs.length xs.length hi = xs.length) → NewP H (cutV xs lo hi) Q)
theorem sl_tupP : SlR X rSlP := by
  intro pins s σ H x v vl vu lo hi sl Q I rx hs pl pu h
  obtain ⟨a, xs, rfl, hx, q1, q2⟩ := h
  by_cases hw : HT.sIx xs.length 0 lo = 0 ∧ HT.sIx xs.length xs.length hi = xs.length
  · exact sl_tupA pins s σ H _ v vl vu lo hi sl Q I rx hs pl pu ⟨a, xs, rfl, hx.sq, q1, fun z => absurd hw z⟩
  · cases rx
    obtain ⟨its, r, ht, hz⟩ := I.tuple (X := X) hx.sq
    have hlen : its.toArray.size = xs.length := by rw [List.size_toArray]; exact r.length.symm
    refine ⟨"tuple", _, PyProof.Rows.slot_tuple_getitem.lookup, ht.typeIs, ?_⟩
    refine HT.getItem_tuple_cut ht hs pl pu (by rw [hlen]; exact hw) ?_ (by rw [hlen]; exact hz)
    rw [hlen]
    exact laidP (s := s) (t' := s.toks) (h' := s.heap) I ((r.drop (HT.sIx xs.length 0 lo)).take (HT.sIx xs.length xs.length hi - HT.sIx xs.length 0 lo)) (Nat.le_trans (cutV_length xs lo hi) hz) (q2 hw)
/-- a displayed tuple, told as plain -/
def tTupP (t : TA) : TE := fun σ H Q => t σ H fun xs H1 => xs.length ≤ sizeLine ∧ NewP H1 xs Q
theorem pe_tupP {es : List Expr} {t : TA} {pos : Pos} {x1 : Nat} (h : PA X es t) : PE X (.Tuple es x1 pos) (tTupP t) := by
  refine ⟨fun pins s σ H Q I hq => ?_⟩
  refine wpAny_Tuple_spliced (thn (h.run pos pins s σ H _ I hq) fun us s1 ⟨xs, H1, I1, r, z, q⟩ => ⟨by rw [← r.length]; exact z, ?_⟩)
  exact laidP (s := s1) (t' := s1.toks) (h' := s1.heap) I1 r z q
end
end L2

/-! the rules with the written part named, so that they stand within comprehensions too -/
namespace KW
open PySem PySem.Spec PyProof.Rows L2
variable {X : Cx} (K : PySem.W.Frag)
theorem ixT (h : X.K = K := by rfl) : IxR X (rIxT K) := h ▸ ix_tup
theorem ixL (h : X.K = K := by rfl) : IxR X (rIxL K) := h ▸ ix_list
theorem inS (h : X.K = K := by rfl) : OpR X (compareOp .In) (rIn K false) := h ▸ op_in_seq
theorem notInS (h : X.K = K := by rfl) : OpR X (compareOp .NotIn) (rIn K true) := h ▸ op_notIn_seq
theorem inDp (hu : X.A.units + 65 < cLine) (h : X.K = K := by rfl) : OpR X (compareOp .In) (rInD K) := h ▸ op_inD hu
theorem notInDp (hu : X.A.units + 65 < cLine) (h : X.K = K := by rfl) : OpR X (compareOp .NotIn) (rNotInD K) := h ▸ op_notInD hu
theorem eqDp (hu : X.A.units + 64 < cLine) (h : X.K = K := by rfl) : OpR X (compareOp .Eq) (rEqD K) := h ▸ op_eqD hu
theorem neDp (hu : X.A.units + 64 < cLine) (h : X.K = K := by rfl) : OpR X (compareOp .NotEq) (rNeD K) := h ▸ op_neD hu
theorem ltT (hu : X.A.units < cLine) (h : X.K = K := by rfl) : OpR X (compareOp .Lt) (rLtT K) := h ▸ op_ltT hu
theorem catA (h : X.K = K := by rfl) : OpR X (binaryOp .Add) (rCatA K) := h ▸ op_catA
theorem catP (h : X.K = K := by rfl) : OpR X (binaryOp .Add) (rCatP K) := h ▸ op_catP
theorem slA (h : X.K = K := by rfl) : SlR X (rSlA K) := h ▸ sl_tupA
theorem slL (h : X.K = K := by rfl) : SlR X (rSlL K) := h ▸ sl_list
def rLenS : List V → Hp → VK → Prop := fun xs H Q => ∃ p ys, xs = [.ref p] ∧ (SqL K H p ys ∨ SqT K H p ys) ∧ Q (.int (ys.length : Nat)) H
theorem lenS (h : X.K = K := by rfl) : CallR X (.builtin "len") (rLenS K) := h ▸ call_len_seq
theorem sumL (hc : X.calm = true := by rfl) (h : X.K = K := by rfl) : CallR X (.builtin "sum") (rSum K) := h ▸ cr_sum hc
theorem sumT (hc : X.calm = true := by rfl) (h : X.K = K := by rfl) : CallR X (.builtin "sum") (rSumT K) := h ▸ cr_sumT hc
theorem minL (hc : X.calm = true := by rfl) (h : X.K = K := by rfl) : CallR X (.builtin "min") (rMin K) := h ▸ cr_min hc
theorem allL (hc : X.calm = true := by rfl) (h : X.K = K := by rfl) : CallR X (.builtin "all") (rAll K) := h ▸ cr_all hc
theorem anyL (hc : X.calm = true := by rfl) (h : X.K = K := by rfl) : CallR X (.builtin "any") (rAny K) := h ▸ cr_any hc
theorem isi (h : X.K = K := by rfl) : CallR X (.builtin "isinstance") (rIsi K) := h ▸ call_isi
def rTupO : List V → Hp → VK → Prop := fun xs H Q => ∃ p ys, xs = [.ref p] ∧ SqL K H p ys ∧ ∀ l, H l = none → Q (.ref l) (upd H l (.tup ys))
theorem tupO (h : X.K = K := by rfl) : CallR X (.type "tuple") (rTupO K) := by
  subst h
  exact fun pins s σ H xs us Q I r q => call_tuple_of pins s σ H xs us Q I r (by
    obtain ⟨p, ys, e, h1, h2⟩ := q
    exact ⟨p, ys, e, .inl ⟨h1, h2⟩⟩)
def rTupP : List V → Hp → VK → Prop := fun xs H Q => ∃ p ys, xs = [.ref p] ∧ SqL K H p ys ∧ NewP H ys Q
theorem tupP (h : X.K = K := by rfl) : CallR X (.type "tuple") (rTupP K) := h ▸ call_tupleP
def rLstO : List V → Hp → VK → Prop := fun xs H Q => ∃ p ys, xs = [.ref p] ∧ (SqL K H p ys ∨ SqT K H p ys) ∧ ∀ l, H l = none → Q (.ref l) (upd H l (.lst ys))
theorem lstO (h : X.K = K := by rfl) : CallR X (.type "list") (rLstO K) := h ▸ call_list_of
def rDctT : List V → Hp → VK → Prop := fun xs H Q => ∃ (a : Addr) (ps : List Addr) (kvs : List (List Key × V)), xs = [.ref a] ∧ (SqL K H a (ps.map V.ref) ∨ PlT H a (ps.map V.ref)) ∧ PrsT H ps kvs ∧
    ∀ p, H p = none → Q (.ref p) (upd H p (.dT (mergeT [] kvs)))
theorem dctT (hu : X.A.units + 2 < cLine) (hc : X.calm = true := by rfl) (h : X.K = K := by rfl) : CallR X (.type "dict") (rDctT K) := h ▸ call_dictT hc hu
def rDctP : List V → Hp → VK → Prop := fun xs H Q => ∃ (a : Addr) (ps : List Addr) (kvs : List (Key × V)), xs = [.ref a] ∧ SqL K H a (ps.map V.ref) ∧ Paired (fun p kv => SqT K H p [kV kv.1, kv.2]) ps kvs ∧
    ∀ p, H p = none → Q (.ref p) (upd H p (.dK (mergeK [] kvs)))
theorem dctP (hc : X.calm = true := by rfl) (h : X.K = K := by rfl) : CallR X (.type "dict") (rDctP K) := h ▸ call_dictP hc
def rSrt : List V → Hp → VK → Prop := rSorted K
theorem srt (h : X.K = K := by rfl) : CallR X (.builtin "sorted") (rSrt K) := h ▸ cr_sorted
end KW

namespace KH
open PySem PySem.Spec PyProof.Rows L2
/-! ### the text by places -/
abbrev PW : Program := PySem.Challenge.pw_passersby_k37_whole_err_papers_hold
def topS (i : Nat) : Stmt := PW.main.body.getD i (.Pass ⟨0, 0, 0, 0⟩)
abbrev FnP (K : PySem.W.Frag) (x : Str) (i : Nat) (f : Addr) (fd : FuncData) : Prop := FunD K x x (defArgs (topS i)) (defBody (topS i)) (defScope (topS i)) [] [] f fd
abbrev N7 : List Str := ["thing"]
abbrev P7 : List Str := ["thing"]
theorem sc7 : FnScope N7 P7 (defScope (topS 7)) := ⟨rfl, rfl, rfl, by decide +kernel, rfl, by decide +kernel, by decide +kernel⟩
abbrev N8 : List Str := ["thing", "low", "high"]
abbrev P8 : List Str := ["thing", "low", "high"]
theorem sc8 : FnScope N8 P8 (defScope (topS 8)) := ⟨rfl, rfl, rfl, by decide +kernel, rfl, by decide +kernel, by decide +kernel⟩
abbrev N9 : List Str := ["sorts", "thing", "one"]
abbrev P9 : List Str := ["sorts", "thing"]
theorem sc9 : FnScope N9 P9 (defScope (topS 9)) := ⟨rfl, rfl, rfl, by decide +kernel, rfl, by decide +kernel, by decide +kernel⟩
abbrev N11 : List Str := ["rule", "thing", "one"]
abbrev P11 : List Str := ["rule", "thing"]
theorem sc11 : FnScope N11 P11 (defScope (topS 11)) := ⟨rfl, rfl, rfl, by decide +kernel, rfl, by decide +kernel, by decide +kernel⟩
abbrev N12 : List Str := ["rule", "counts", "found", "sort", "many", "room"]
abbrev P12 : List Str := ["rule", "counts"]
theorem sc12 : FnScope N12 P12 (defScope (topS 12)) := ⟨rfl, rfl, rfl, by decide +kernel, rfl, by decide +kernel, by decide +kernel⟩
abbrev N13 : List Str := ["crowd", "meeting"]
abbrev P13 : List Str := ["crowd", "meeting"]
theorem sc13 : FnScope N13 P13 (defScope (topS 13)) := ⟨rfl, rfl, rfl, by decide +kernel, rfl, by decide +kernel, by decide +kernel⟩
abbrev N14 : List Str := ["rule", "crowd", "number", "meeting"]
abbrev P14 : List Str := ["rule", "crowd"]
theorem sc14 : FnScope N14 P14 (defScope (topS 14)) := ⟨rfl, rfl, rfl, by decide +kernel, rfl, by decide +kernel, by decide +kernel⟩
abbrev N15 : List Str := ["crowd", "meeting", "found", "room"]
abbrev P15 : List Str := ["crowd", "meeting"]
theorem sc15 : FnScope N15 P15 (defScope (topS 15)) := ⟨rfl, rfl, rfl, by decide +kernel, rfl, by decide +kernel, by decide +kernel⟩
abbrev N16 : List Str := ["rule", "crowd", "number"]
abbrev P16 : List Str := ["rule", "crowd", "number"]
theorem sc16 : FnScope N16 P16 (defScope (topS 16)) := ⟨rfl, rfl, rfl, by decide +kernel, rfl, by decide +kernel, by decide +kernel⟩
abbrev N17 : List Str := ["rule", "crowd", "number"]
abbrev P17 : List Str := ["rule", "crowd", "number"]
theorem sc17 : FnScope N17 P17 (defScope (topS 17)) := ⟨rfl, rfl, rfl, by decide +kernel, rfl, by decide +kernel, by decide +kernel⟩
abbrev N18 : List Str := ["rule", "crowd", "words", "room", "many"]
abbrev P18 : List Str := ["rule", "crowd"]
theorem sc18 : FnScope N18 P18 (defScope (topS 18)) := ⟨rfl, rfl, rfl, by decide +kernel, rfl, by decide +kernel, by decide +kernel⟩
abbrev N20 : List Str := ["rule", "crowd", "limit", "found", "line", "seen", "here", "number", "behind"]
abbrev P20 : List Str := ["rule", "crowd", "limit"]
theorem sc20 : FnScope N20 P20 (defScope (topS 20)) := ⟨rfl, rfl, rfl, by decide +kernel, rfl, by decide +kernel, by decide +kernel⟩
abbrev N21 : List Str := ["graph", "crowd", "goals", "steps", "line", "at", "number", "behind", "numbers", "here"]
abbrev P21 : List Str := ["graph", "crowd", "goals"]
theorem sc21 : FnScope N21 P21 (defScope (topS 21)) := ⟨rfl, rfl, rfl, by decide +kernel, rfl, by decide +kernel, by decide +kernel⟩
abbrev N22 : List Str := ["graph", "goals", "ahead", "crowd", "number", "behind", "found", "line", "at", "goal"]
abbrev P22 : List Str := ["graph", "goals"]
theorem sc22 : FnScope N22 P22 (defScope (topS 22)) := ⟨rfl, rfl, rfl, by decide +kernel, rfl, by decide +kernel, by decide +kernel⟩
abbrev N24 : List Str := ["some", "counts", "sort"]
abbrev P24 : List Str := ["some", "counts"]
theorem sc24 : FnScope N24 P24 (defScope (topS 24)) := ⟨rfl, rfl, rfl, by decide +kernel, rfl, by decide +kernel, by decide +kernel⟩
abbrev N25 : List Str := ["question", "counts", "word"]
abbrev P25 : List Str := ["question", "counts"]
theorem sc25 : FnScope N25 P25 (defScope (topS 25)) := ⟨rfl, rfl, rfl, by decide +kernel, rfl, by decide +kernel, by decide +kernel⟩
abbrev N27 : List Str := ["question", "counts"]
abbrev P27 : List Str := ["question", "counts"]
theorem sc27 : FnScope N27 P27 (defScope (topS 27)) := ⟨rfl, rfl, rfl, by decide +kernel, rfl, by decide +kernel, by decide +kernel⟩
abbrev N28 : List Str := ["rule", "question", "counts", "limit", "graph", "word", "to_wrong", "to_settled", "crowd"]
abbrev P28 : List Str := ["rule", "question", "counts", "limit"]
theorem sc28 : FnScope N28 P28 (defScope (topS 28)) := ⟨rfl, rfl, rfl, by decide +kernel, rfl, by decide +kernel, by decide +kernel⟩
abbrev N31 : List Str := ["thing"]
abbrev P31 : List Str := ["thing"]
theorem sc31 : FnScope N31 P31 (defScope (topS 31)) := ⟨rfl, rfl, rfl, by decide +kernel, rfl, by decide +kernel, by decide +kernel⟩
abbrev N32 : List Str := ["rule", "crowd", "numbers", "word", "found", "place", "number"]
abbrev P32 : List Str := ["rule", "crowd", "numbers", "word"]
theorem sc32 : FnScope N32 P32 (defScope (topS 32)) := ⟨rfl, rfl, rfl, by decide +kernel, rfl, by decide +kernel, by decide +kernel⟩
abbrev N33 : List Str := ["rule", "thing"]
abbrev P33 : List Str := ["rule", "thing"]
theorem sc33 : FnScope N33 P33 (defScope (topS 33)) := ⟨rfl, rfl, rfl, by decide +kernel, rfl, by decide +kernel, by decide +kernel⟩
abbrev N34 : List Str := ["rule", "thing", "hands"]
abbrev P34 : List Str := ["rule", "thing", "hands"]
theorem sc34 : FnScope N34 P34 (defScope (topS 34)) := ⟨rfl, rfl, rfl, by decide +kernel, rfl, by decide +kernel, by decide +kernel⟩
abbrev N35 : List Str := ["rule", "ranks", "hands", "place", "one"]
abbrev P35 : List Str := ["rule", "ranks", "hands"]
theorem sc35 : FnScope N35 P35 (defScope (topS 35)) := ⟨rfl, rfl, rfl, by decide +kernel, rfl, by decide +kernel, by decide +kernel⟩
abbrev N36 : List Str := ["rule", "ranks", "word", "told", "place", "one", "crowd", "rank", "behind", "number", "other"]
abbrev P36 : List Str := ["rule", "ranks", "word"]
theorem sc36 : FnScope N36 P36 (defScope (topS 36)) := ⟨rfl, rfl, rfl, by decide +kernel, rfl, by decide +kernel, by decide +kernel⟩
abbrev N37 : List Str := ["rule", "question", "thing", "counts", "numbers", "ranks", "crowd"]
abbrev P37 : List Str := ["rule", "question", "thing"]
theorem sc37 : FnScope N37 P37 (defScope (topS 37)) := ⟨rfl, rfl, rfl, by decide +kernel, rfl, by decide +kernel, by decide +kernel⟩
abbrev N39 : List Str := ["rule", "question", "counts", "limit", "graph", "to_wrong", "to_settled", "lost", "begin", "numbers", "crowd", "ranks", "one"]
abbrev P39 : List Str := ["rule", "question", "counts", "limit"]
theorem sc39 : FnScope N39 P39 (defScope (topS 39)) := ⟨rfl, rfl, rfl, by decide +kernel, rfl, by decide +kernel, by decide +kernel⟩
abbrev N41 : List Str := ["_law_script", "_law_at", "_law_cell"]
abbrev P41 : List Str := ["_law_script", "_law_at"]
theorem sc41 : FnScope N41 P41 (defScope (topS 41)) := ⟨rfl, rfl, rfl, by decide +kernel, rfl, by decide +kernel, by decide +kernel⟩
abbrev N42 : List Str := ["_law_feed_here", "_law_many", "_law_turn", "_law_left", "_law_here", "_law_mixed"]
abbrev P42 : List Str := ["_law_feed_here", "_law_many"]
theorem sc42 : FnScope N42 P42 (defScope (topS 42)) := ⟨rfl, rfl, rfl, by decide +kernel, rfl, by decide +kernel, by decide +kernel⟩
abbrev N43 : List Str := ["_law_feed_here", "_law_most", "_law_rooms", "_law_sorts", "_law_starts", "_law_says", "_law_often", "_law_meets", "_law_a", "_law_b", "_law_c", "_law_d", "_law_sort", "_law_room"]
abbrev P43 : List Str := ["_law_feed_here", "_law_most"]
theorem sc43 : FnScope N43 P43 (defScope (topS 43)) := ⟨rfl, rfl, rfl, by decide +kernel, rfl, by decide +kernel, by decide +kernel⟩
abbrev N44 : List Str := ["_law_feed_here", "_law_sorts", "_law_deep", "_law_some", "_law_way_here", "_law_others", "_law_m", "_law_sort"]
abbrev P44 : List Str := ["_law_feed_here", "_law_sorts", "_law_deep"]
theorem sc44 : FnScope N44 P44 (defScope (topS 44)) := ⟨rfl, rfl, rfl, by decide +kernel, rfl, by decide +kernel, by decide +kernel⟩
abbrev N45 : List Str := ["_law_question_here", "_law_counts_here", "_law_many", "_law_sort"]
abbrev P45 : List Str := ["_law_question_here", "_law_counts_here"]
theorem sc45 : FnScope N45 P45 (defScope (topS 45)) := ⟨rfl, rfl, rfl, by decide +kernel, rfl, by decide +kernel, by decide +kernel⟩
abbrev N46 : List Str := ["_law_sorts", "_law_question_here", "_law_some", "_law_meets", "_law_those", "_law_sides", "_law_starts", "_law_n", "_law_a", "_law_b", "_law_m", "_law_r", "_law_sort", "_law_room"]
abbrev P46 : List Str := ["_law_sorts", "_law_question_here"]
theorem sc46 : FnScope N46 P46 (defScope (topS 46)) := ⟨rfl, rfl, rfl, by decide +kernel, rfl, by decide +kernel, by decide +kernel⟩
abbrev N47 : List Str := ["_law_feed_here", "_law_most", "_law_rule_here", "_law_question_here"]
abbrev P47 : List Str := ["_law_feed_here", "_law_most"]
theorem sc47 : FnScope N47 P47 (defScope (topS 47)) := ⟨rfl, rfl, rfl, by decide +kernel, rfl, by decide +kernel, by decide +kernel⟩
abbrev N48 : List Str := ["_law_rule_here", "_law_crowd", "_law_found", "_law_number", "_law_meeting", "_law_left", "_law_room"]
abbrev P48 : List Str := ["_law_rule_here", "_law_crowd"]
theorem sc48 : FnScope N48 P48 (defScope (topS 48)) := ⟨rfl, rfl, rfl, by decide +kernel, rfl, by decide +kernel, by decide +kernel⟩
abbrev N49 : List Str := ["_law_rule_here", "_law_crowd", "_law_found", "_law_line", "_law_here", "_law_number", "_law_later"]
abbrev P49 : List Str := ["_law_rule_here", "_law_crowd"]
theorem sc49 : FnScope N49 P49 (defScope (topS 49)) := ⟨rfl, rfl, rfl, by decide +kernel, rfl, by decide +kernel, by decide +kernel⟩
abbrev N50 : List Str := ["_law_feed_here", "_law_sorts", "_law_most", "_law_found", "_law_hand", "_law_sort"]
abbrev P50 : List Str := ["_law_feed_here", "_law_sorts", "_law_most"]
theorem sc50 : FnScope N50 P50 (defScope (topS 50)) := ⟨rfl, rfl, rfl, by decide +kernel, rfl, by decide +kernel, by decide +kernel⟩
abbrev N51 : List Str := ["_law_rule_here", "_law_counts_here", "_law_found", "_law_sort", "_law_room"]
abbrev P51 : List Str := ["_law_rule_here", "_law_counts_here"]
theorem sc51 : FnScope N51 P51 (defScope (topS 51)) := ⟨rfl, rfl, rfl, by decide +kernel, rfl, by decide +kernel, by decide +kernel⟩
abbrev N52 : List Str := ["_law_rule_here", "_law_crowd", "_law_words", "_law_room"]
abbrev P52 : List Str := ["_law_rule_here", "_law_crowd"]
theorem sc52 : FnScope N52 P52 (defScope (topS 52)) := ⟨rfl, rfl, rfl, by decide +kernel, rfl, by decide +kernel, by decide +kernel⟩
abbrev N53 : List Str := ["_law_found", "_law_goals", "_law_seen", "_law_many", "_law_crowd", "_law_steps_here", "_law_goal", "_law_step"]
abbrev P53 : List Str := ["_law_found", "_law_goals"]
theorem sc53 : FnScope N53 P53 (defScope (topS 53)) := ⟨rfl, rfl, rfl, by decide +kernel, rfl, by decide +kernel, by decide +kernel⟩
abbrev N54 : List Str := ["_law_rule_here", "_law_question_here", "_law_counts_here", "_law_found", "_law_word", "_law_erring", "_law_wrong", "_law_right", "_law_crowd"]
abbrev P54 : List Str := ["_law_rule_here", "_law_question_here", "_law_counts_here"]
theorem sc54 : FnScope N54 P54 (defScope (topS 54)) := ⟨rfl, rfl, rfl, by decide +kernel, rfl, by decide +kernel, by decide +kernel⟩
abbrev N55 : List Str := ["_law_found", "_law_goals", "_law_far_here", "_law_turn", "_law_many", "_law_crowd", "_law_ranks", "_law_goal", "_law_step"]
abbrev P55 : List Str := ["_law_found", "_law_goals"]
theorem sc55 : FnScope N55 P55 (defScope (topS 55)) := ⟨rfl, rfl, rfl, by decide +kernel, rfl, by decide +kernel, by decide +kernel⟩
abbrev N56 : List Str := ["_law_found", "_law_crowd", "_law_goals", "_law_line", "_law_seen", "_law_at", "_law_number", "_law_later"]
abbrev P56 : List Str := ["_law_found", "_law_crowd", "_law_goals"]
theorem sc56 : FnScope N56 P56 (defScope (topS 56)) := ⟨rfl, rfl, rfl, by decide +kernel, rfl, by decide +kernel, by decide +kernel⟩
abbrev N57 : List Str := ["_law_rule_here", "_law_question_here", "_law_counts_here", "_law_begin", "_law_found", "_law_lost_here", "_law_word", "_law_numbers", "_law_crowd", "_law_some", "_law_far_here", "_law_one"]
abbrev P57 : List Str := ["_law_rule_here", "_law_question_here", "_law_counts_here"]
theorem sc57 : FnScope N57 P57 (defScope (topS 57)) := ⟨rfl, rfl, rfl, by decide +kernel, rfl, by decide +kernel, by decide +kernel⟩
abbrev N58 : List Str := ["_law_rule_here", "_law_question_here", "_law_thing", "_law_found"]
abbrev P58 : List Str := ["_law_rule_here", "_law_question_here", "_law_thing"]
theorem sc58 : FnScope N58 P58 (defScope (topS 58)) := ⟨rfl, rfl, rfl, by decide +kernel, rfl, by decide +kernel, by decide +kernel⟩
abbrev N59 : List Str := ["_law_rule_here", "_law_question_here", "_law_paper_here", "_law_crowd", "_law_number"]
abbrev P59 : List Str := ["_law_rule_here", "_law_question_here", "_law_paper_here"]
theorem sc59 : FnScope N59 P59 (defScope (topS 59)) := ⟨rfl, rfl, rfl, by decide +kernel, rfl, by decide +kernel, by decide +kernel⟩
abbrev N60 : List Str := ["_law_rooms", "_law_hands", "_law_rows", "_law_room", "_law_longer", "_law_row", "_law_many"]
abbrev P60 : List Str := ["_law_rooms", "_law_hands"]
theorem sc60 : FnScope N60 P60 (defScope (topS 60)) := ⟨rfl, rfl, rfl, by decide +kernel, rfl, by decide +kernel, by decide +kernel⟩
abbrev N61 : List Str := ["_law_feed_here", "_law_rule_here", "_law_papers", "_law_one", "_law_other", "_law_way_here", "_law_at", "_law_wide", "_law_ranks", "_law_crowd", "_law_rank"]
abbrev P61 : List Str := ["_law_feed_here", "_law_rule_here", "_law_papers"]
theorem sc61 : FnScope N61 P61 (defScope (topS 61)) := ⟨rfl, rfl, rfl, by decide +kernel, rfl, by decide +kernel, by decide +kernel⟩
abbrev N62 : List Str := ["_law_script", "_law_k", "_law_feed_here", "_law_rule_here", "_law_question_here", "_law_papers", "_law_turn", "_law_counts_here", "_law_told", "_law_thing", "_law_j"]
abbrev P62 : List Str := ["_law_script"]
theorem sc62 : FnScope N62 P62 (defScope (topS 62)) := ⟨rfl, rfl, rfl, by decide +kernel, rfl, by decide +kernel, by decide +kernel⟩
/-- what the head has left of the text -/
structure Tx (K : PySem.W.Frag) (mg : Str → Option Value) (ad : Nat → Addr) (fd : Nat → FuncData) : Prop where
  f_is_whole : FnP K "is_whole" 7 (ad 7) (fd 7)
  g_is_whole : mg "is_whole" = some (.ref (ad 7))
  f_is_from : FnP K "is_from" 8 (ad 8) (fd 8)
  g_is_from : mg "is_from" = some (.ref (ad 8))
  f_is_counts : FnP K "is_counts" 9 (ad 9) (fd 9)
  g_is_counts : mg "is_counts" = some (.ref (ad 9))
  f_is_crowd : FnP K "is_crowd" 11 (ad 11) (fd 11)
  g_is_crowd : mg "is_crowd" = some (.ref (ad 11))
  f_begun : FnP K "begun" 12 (ad 12) (fd 12)
  g_begun : mg "begun" = some (.ref (ad 12))
  f_may_be : FnP K "may_be" 13 (ad 13) (fd 13)
  g_may_be : mg "may_be" = some (.ref (ad 13))
  f_can : FnP K "can" 14 (ad 14) (fd 14)
  g_can : mg "can" = some (.ref (ad 14))
  f_crowd_behind : FnP K "crowd_behind" 15 (ad 15) (fd 15)
  g_crowd_behind : mg "crowd_behind" = some (.ref (ad 15))
  f_is_next : FnP K "is_next" 16 (ad 16) (fd 16)
  g_is_next : mg "is_next" = some (.ref (ad 16))
  f_met : FnP K "met" 17 (ad 17) (fd 17)
  g_met : mg "met" = some (.ref (ad 17))
  f_said : FnP K "said" 18 (ad 18) (fd 18)
  g_said : mg "said" = some (.ref (ad 18))
  f_graph_of : FnP K "graph_of" 20 (ad 20) (fd 20)
  g_graph_of : mg "graph_of" = some (.ref (ad 20))
  f_row_to : FnP K "row_to" 21 (ad 21) (fd 21)
  g_row_to : mg "row_to" = some (.ref (ad 21))
  f_ranks_to : FnP K "ranks_to" 22 (ad 22) (fd 22)
  g_ranks_to : mg "ranks_to" = some (.ref (ad 22))
  f_hands_of : FnP K "hands_of" 24 (ad 24) (fd 24)
  g_hands_of : mg "hands_of" = some (.ref (ad 24))
  f_holds : FnP K "holds" 25 (ad 25) (fd 25)
  g_holds : mg "holds" = some (.ref (ad 25))
  f_truth_word : FnP K "truth_word" 27 (ad 27) (fd 27)
  g_truth_word : mg "truth_word" = some (.ref (ad 27))
  f_gone_through : FnP K "gone_through" 28 (ad 28) (fd 28)
  g_gone_through : mg "gone_through" = some (.ref (ad 28))
  f_is_number : FnP K "is_number" 31 (ad 31) (fd 31)
  g_is_number : mg "is_number" = some (.ref (ad 31))
  f_passed_along : FnP K "passed_along" 32 (ad 32) (fd 32)
  g_passed_along : mg "passed_along" = some (.ref (ad 32))
  f_ask_shape : FnP K "ask_shape" 33 (ad 33) (fd 33)
  g_ask_shape : mg "ask_shape" = some (.ref (ad 33))
  f_is_ranked : FnP K "is_ranked" 34 (ad 34) (fd 34)
  g_is_ranked : mg "is_ranked" = some (.ref (ad 34))
  f_ask_ranks : FnP K "ask_ranks" 35 (ad 35) (fd 35)
  g_ask_ranks : mg "ask_ranks" = some (.ref (ad 35))
  f_ask_ways : FnP K "ask_ways" 36 (ad 36) (fd 36)
  g_ask_ways : mg "ask_ways" = some (.ref (ad 36))
  f_lets_err : FnP K "lets_err" 37 (ad 37) (fd 37)
  g_lets_err : mg "lets_err" = some (.ref (ad 37))
  f_err_at : FunD K "err_at" "err_at" (defArgs (topS 39)) (defBody (topS 39)) (defScope (topS 39)) [.int 1000] [] (ad 39) (fd 39)
  g_err_at : mg "err_at" = some (.ref (ad 39))
  f__law_feed : FnP K "_law_feed" 41 (ad 41) (fd 41)
  g__law_feed : mg "_law_feed" = some (.ref (ad 41))
  f__law_draw : FnP K "_law_draw" 42 (ad 42) (fd 42)
  g__law_draw : mg "_law_draw" = some (.ref (ad 42))
  f__law_rule : FnP K "_law_rule" 43 (ad 43) (fd 43)
  g__law_rule : mg "_law_rule" = some (.ref (ad 43))
  f__law_question : FnP K "_law_question" 44 (ad 44) (fd 44)
  g__law_question : mg "_law_question" = some (.ref (ad 44))
  f__law_holds : FnP K "_law_holds" 45 (ad 45) (fd 45)
  g__law_holds : mg "_law_holds" = some (.ref (ad 45))
  f__law_made : FnP K "_law_made" 46 (ad 46) (fd 46)
  g__law_made : mg "_law_made" = some (.ref (ad 46))
  f__law_pair : FnP K "_law_pair" 47 (ad 47) (fd 47)
  g__law_pair : mg "_law_pair" = some (.ref (ad 47))
  f__law_steps : FnP K "_law_steps" 48 (ad 48) (fd 48)
  g__law_steps : mg "_law_steps" = some (.ref (ad 48))
  f__law_all : FnP K "_law_all" 49 (ad 49) (fd 49)
  g__law_all : mg "_law_all" = some (.ref (ad 49))
  f__law_counts : FnP K "_law_counts" 50 (ad 50) (fd 50)
  g__law_counts : mg "_law_counts" = some (.ref (ad 50))
  f__law_begun : FnP K "_law_begun" 51 (ad 51) (fd 51)
  g__law_begun : mg "_law_begun" = some (.ref (ad 51))
  f__law_said : FnP K "_law_said" 52 (ad 52) (fd 52)
  g__law_said : mg "_law_said" = some (.ref (ad 52))
  f__law_back : FnP K "_law_back" 53 (ad 53) (fd 53)
  g__law_back : mg "_law_back" = some (.ref (ad 53))
  f__law_lost : FnP K "_law_lost" 54 (ad 54) (fd 54)
  g__law_lost : mg "_law_lost" = some (.ref (ad 54))
  f__law_far : FnP K "_law_far" 55 (ad 55) (fd 55)
  g__law_far : mg "_law_far" = some (.ref (ad 55))
  f__law_way : FnP K "_law_way" 56 (ad 56) (fd 56)
  g__law_way : mg "_law_way" = some (.ref (ad 56))
  f__law_paper : FnP K "_law_paper" 57 (ad 57) (fd 57)
  g__law_paper : mg "_law_paper" = some (.ref (ad 57))
  f__law_is_let : FnP K "_law_is_let" 58 (ad 58) (fd 58)
  g__law_is_let : mg "_law_is_let" = some (.ref (ad 58))
  f__law_holds_so : FnP K "_law_holds_so" 59 (ad 59) (fd 59)
  g__law_holds_so : mg "_law_holds_so" = some (.ref (ad 59))
  f__law_all_crowds : FnP K "_law_all_crowds" 60 (ad 60) (fd 60)
  g__law_all_crowds : mg "_law_all_crowds" = some (.ref (ad 60))
  f__law_near : FnP K "_law_near" 61 (ad 61) (fd 61)
  g__law_near : mg "_law_near" = some (.ref (ad 61))
  f_law : FnP K "law" 62 (ad 62) (fd 62)
  g_law : mg "law" = some (.ref (ad 62))
  f_init : FunD K "__init__" "NoPaper.__init__" (defArgs (inClass (topS 3) 0)) (defBody (inClass (topS 3) 0)) (defScope (inClass (topS 3) 0)) [] [] (ad 1003) (fd 1003)
  g_NoPaper : mg "NoPaper" = some (.ref (ad 3))
  exT : OexC K (ad 3)
  exI : PySem.W.findIn K (.ref (ad 3)) "__init__" = some (some (.ref (ad 1003)))
  exF : PySem.W.typeIn K (.ref (ad 1003)) = some (.type "function")
  exM : PySem.W.exmOne K (.ref (ad 3)) (.ref (ad 3)) = some true
  exW : PySem.W.findIn K (.ref (ad 3)) "word" = some none
  exN : PySem.W.findIn K (.ref (ad 3)) "number" = some none
  m_MOST_HANDS_rules : ∃ t, mg "MOST_HANDS_rules" = some (.int 1000000 t)
  m_MOST_HANDS_errchecker : ∃ t, mg "MOST_HANDS_errchecker" = some (.int 60 t)
  b_isinstance : mg "isinstance" = none
  b_int : mg "int" = none
  b_bool : mg "bool" = none
  b_tuple : mg "tuple" = none
  b_len : mg "len" = none
  b_sum : mg "sum" = none
  b_list : mg "list" = none
  b_dict : mg "dict" = none
  b_enumerate : mg "enumerate" = none
  b_range : mg "range" = none
  b_sorted : mg "sorted" = none
  b_max : mg "max" = none
  b_min : mg "min" = none
  b_all : mg "all" = none
  b_any : mg "any" = none
section
variable {K : PySem.W.Frag} {mg : Str → Option Value} {ad : Nat → Addr} {fd : Nat → FuncData}
theorem Tx.b_is_whole (T : Tx K mg ad fd) : Binds K (fd 7) P7 [] := T.f_is_whole.bindsN fun _ _ _ _ _ _ us hl => match us, hl with | [_], _ => rfl
theorem Tx.b_is_from (T : Tx K mg ad fd) : Binds K (fd 8) P8 [] := T.f_is_from.bindsN fun _ _ _ _ _ _ us hl => match us, hl with | [_, _, _], _ => rfl
theorem Tx.b_is_counts (T : Tx K mg ad fd) : Binds K (fd 9) P9 [] := T.f_is_counts.bindsN fun _ _ _ _ _ _ us hl => match us, hl with | [_, _], _ => rfl
theorem Tx.b_is_crowd (T : Tx K mg ad fd) : Binds K (fd 11) P11 [] := T.f_is_crowd.bindsN fun _ _ _ _ _ _ us hl => match us, hl with | [_, _], _ => rfl
theorem Tx.b_begun (T : Tx K mg ad fd) : Binds K (fd 12) P12 [] := T.f_begun.bindsN fun _ _ _ _ _ _ us hl => match us, hl with | [_, _], _ => rfl
theorem Tx.b_may_be (T : Tx K mg ad fd) : Binds K (fd 13) P13 [] := T.f_may_be.bindsN fun _ _ _ _ _ _ us hl => match us, hl with | [_, _], _ => rfl
theorem Tx.b_can (T : Tx K mg ad fd) : Binds K (fd 14) P14 [] := T.f_can.bindsN fun _ _ _ _ _ _ us hl => match us, hl with | [_, _], _ => rfl
theorem Tx.b_crowd_behind (T : Tx K mg ad fd) : Binds K (fd 15) P15 [] := T.f_crowd_behind.bindsN fun _ _ _ _ _ _ us hl => match us, hl with | [_, _], _ => rfl
theorem Tx.b_is_next (T : Tx K mg ad fd) : Binds K (fd 16) P16 [] := T.f_is_next.bindsN fun _ _ _ _ _ _ us hl => match us, hl with | [_, _, _], _ => rfl
theorem Tx.b_met (T : Tx K mg ad fd) : Binds K (fd 17) P17 [] := T.f_met.bindsN fun _ _ _ _ _ _ us hl => match us, hl with | [_, _, _], _ => rfl
theorem Tx.b_said (T : Tx K mg ad fd) : Binds K (fd 18) P18 [] := T.f_said.bindsN fun _ _ _ _ _ _ us hl => match us, hl with | [_, _], _ => rfl
theorem Tx.b_graph_of (T : Tx K mg ad fd) : Binds K (fd 20) P20 [] := T.f_graph_of.bindsN fun _ _ _ _ _ _ us hl => match us, hl with | [_, _, _], _ => rfl
theorem Tx.b_row_to (T : Tx K mg ad fd) : Binds K (fd 21) P21 [] := T.f_row_to.bindsN fun _ _ _ _ _ _ us hl => match us, hl with | [_, _, _], _ => rfl
theorem Tx.b_ranks_to (T : Tx K mg ad fd) : Binds K (fd 22) P22 [] := T.f_ranks_to.bindsN fun _ _ _ _ _ _ us hl => match us, hl with | [_, _], _ => rfl
theorem Tx.b_hands_of (T : Tx K mg ad fd) : Binds K (fd 24) P24 [] := T.f_hands_of.bindsN fun _ _ _ _ _ _ us hl => match us, hl with | [_, _], _ => rfl
theorem Tx.b_holds (T : Tx K mg ad fd) : Binds K (fd 25) P25 [] := T.f_holds.bindsN fun _ _ _ _ _ _ us hl => match us, hl with | [_, _], _ => rfl
theorem Tx.b_truth_word (T : Tx K mg ad fd) : Binds K (fd 27) P27 [] := T.f_truth_word.bindsN fun _ _ _ _ _ _ us hl => match us, hl with | [_, _], _ => rfl
theorem Tx.b_gone_through (T : Tx K mg ad fd) : Binds K (fd 28) P28 [] := T.f_gone_through.bindsN fun _ _ _ _ _ _ us hl => match us, hl with | [_, _, _, _], _ => rfl
theorem Tx.b_is_number (T : Tx K mg ad fd) : Binds K (fd 31) P31 [] := T.f_is_number.bindsN fun _ _ _ _ _ _ us hl => match us, hl with | [_], _ => rfl
theorem Tx.b_passed_along (T : Tx K mg ad fd) : Binds K (fd 32) P32 [] := T.f_passed_along.bindsN fun _ _ _ _ _ _ us hl => match us, hl with | [_, _, _, _], _ => rfl
theorem Tx.b_ask_shape (T : Tx K mg ad fd) : Binds K (fd 33) P33 [] := T.f_ask_shape.bindsN fun _ _ _ _ _ _ us hl => match us, hl with | [_, _], _ => rfl
theorem Tx.b_is_ranked (T : Tx K mg ad fd) : Binds K (fd 34) P34 [] := T.f_is_ranked.bindsN fun _ _ _ _ _ _ us hl => match us, hl with | [_, _, _], _ => rfl
theorem Tx.b_ask_ranks (T : Tx K mg ad fd) : Binds K (fd 35) P35 [] := T.f_ask_ranks.bindsN fun _ _ _ _ _ _ us hl => match us, hl with | [_, _, _], _ => rfl
theorem Tx.b_ask_ways (T : Tx K mg ad fd) : Binds K (fd 36) P36 [] := T.f_ask_ways.bindsN fun _ _ _ _ _ _ us hl => match us, hl with | [_, _, _], _ => rfl
theorem Tx.b_lets_err (T : Tx K mg ad fd) : Binds K (fd 37) P37 [] := T.f_lets_err.bindsN fun _ _ _ _ _ _ us hl => match us, hl with | [_, _, _], _ => rfl
theorem Tx.b__law_feed (T : Tx K mg ad fd) : Binds K (fd 41) P41 [] := T.f__law_feed.bindsN fun _ _ _ _ _ _ us hl => match us, hl with | [_, _], _ => rfl
theorem Tx.b__law_draw (T : Tx K mg ad fd) : Binds K (fd 42) P42 [] := T.f__law_draw.bindsN fun _ _ _ _ _ _ us hl => match us, hl with | [_, _], _ => rfl
theorem Tx.b__law_rule (T : Tx K mg ad fd) : Binds K (fd 43) P43 [] := T.f__law_rule.bindsN fun _ _ _ _ _ _ us hl => match us, hl with | [_, _], _ => rfl
theorem Tx.b__law_question (T : Tx K mg ad fd) : Binds K (fd 44) P44 [] := T.f__law_question.bindsN fun _ _ _ _ _ _ us hl => match us, hl with | [_, _, _], _ => rfl
theorem Tx.b__law_holds (T : Tx K mg ad fd) : Binds K (fd 45) P45 [] := T.f__law_holds.bindsN fun _ _ _ _ _ _ us hl => match us, hl with | [_, _], _ => rfl
theorem Tx.b__law_made (T : Tx K mg ad fd) : Binds K (fd 46) P46 [] := T.f__law_made.bindsN fun _ _ _ _ _ _ us hl => match us, hl with | [_, _], _ => rfl
theorem Tx.b__law_pair (T : Tx K mg ad fd) : Binds K (fd 47) P47 [] := T.f__law_pair.bindsN fun _ _ _ _ _ _ us hl => match us, hl with | [_, _], _ => rfl
theorem Tx.b__law_steps (T : Tx K mg ad fd) : Binds K (fd 48) P48 [] := T.f__law_steps.bindsN fun _ _ _ _ _ _ us hl => match us, hl with | [_, _], _ => rfl
theorem Tx.b__law_all (T : Tx K mg ad fd) : Binds K (fd 49) P49 [] := T.f__law_all.bindsN fun _ _ _ _ _ _ us hl => match us, hl with | [_, _], _ => rfl
theorem Tx.b__law_counts (T : Tx K mg ad fd) : Binds K (fd 50) P50 [] := T.f__law_counts.bindsN fun _ _ _ _ _ _ us hl => match us, hl with | [_, _, _], _ => rfl
theorem Tx.b__law_begun (T : Tx K mg ad fd) : Binds K (fd 51) P51 [] := T.f__law_begun.bindsN fun _ _ _ _ _ _ us hl => match us, hl with | [_, _], _ => rfl
theorem Tx.b__law_said (T : Tx K mg ad fd) : Binds K (fd 52) P52 [] := T.f__law_said.bindsN fun _ _ _ _ _ _ us hl => match us, hl with | [_, _], _ => rfl
theorem Tx.b__law_back (T : Tx K mg ad fd) : Binds K (fd 53) P53 [] := T.f__law_back.bindsN fun _ _ _ _ _ _ us hl => match us, hl with | [_, _], _ => rfl
theorem Tx.b__law_lost (T : Tx K mg ad fd) : Binds K (fd 54) P54 [] := T.f__law_lost.bindsN fun _ _ _ _ _ _ us hl => match us, hl with | [_, _, _], _ => rfl
theorem Tx.b__law_far (T : Tx K mg ad fd) : Binds K (fd 55) P55 [] := T.f__law_far.bindsN fun _ _ _ _ _ _ us hl => match us, hl with | [_, _], _ => rfl
theorem Tx.b__law_way (T : Tx K mg ad fd) : Binds K (fd 56) P56 [] := T.f__law_way.bindsN fun _ _ _ _ _ _ us hl => match us, hl with | [_, _, _], _ => rfl
theorem Tx.b__law_paper (T : Tx K mg ad fd) : Binds K (fd 57) P57 [] := T.f__law_paper.bindsN fun _ _ _ _ _ _ us hl => match us, hl with | [_, _, _], _ => rfl
theorem Tx.b__law_is_let (T : Tx K mg ad fd) : Binds K (fd 58) P58 [] := T.f__law_is_let.bindsN fun _ _ _ _ _ _ us hl => match us, hl with | [_, _, _], _ => rfl
theorem Tx.b__law_holds_so (T : Tx K mg ad fd) : Binds K (fd 59) P59 [] := T.f__law_holds_so.bindsN fun _ _ _ _ _ _ us hl => match us, hl with | [_, _, _], _ => rfl
theorem Tx.b__law_all_crowds (T : Tx K mg ad fd) : Binds K (fd 60) P60 [] := T.f__law_all_crowds.bindsN fun _ _ _ _ _ _ us hl => match us, hl with | [_, _], _ => rfl
theorem Tx.b__law_near (T : Tx K mg ad fd) : Binds K (fd 61) P61 [] := T.f__law_near.bindsN fun _ _ _ _ _ _ us hl => match us, hl with | [_, _, _], _ => rfl
theorem Tx.b_law (T : Tx K mg ad fd) : Binds K (fd 62) P62 [] := T.f_law.bindsN fun _ _ _ _ _ _ us hl => match us, hl with | [_], _ => rfl
theorem hu_eq {A : Around} {k : Nat} (hr : Room k A) : A.units + 64 < cLine := hr.units
theorem hu_lt {A : Around} {k : Nat} (hr : Room k A) : A.units < cLine := Nat.lt_of_le_of_lt (Nat.le_add_right _ 64) hr.units
theorem hu_d {A : Around} {k : Nat} (hr : Room k A) : A.units + 2 < cLine := Nat.lt_of_le_of_lt (Nat.add_le_add_left (by decide : 2 ≤ 64) _) hr.units
theorem hu_in {A : Around} {k : Nat} (hr : Room k A) : A.units + 65 < cLine := by have := hr.un; omega
theorem hu_s {A : Around} {k : Nat} (hr : Room k A) : A.units + 10 < cLine := Nat.lt_of_le_of_lt (Nat.add_le_add_left (by decide : 10 ≤ 64) _) hr.units
end
end KH

namespace KH
open PySem PySem.Spec PyProof.Rows L2 KM
/-! ### heaps -/
def isT : HO → Bool
  | .tup _ => true
  | .frz _ (.tup _) => true
  | _ => false
/-- all tuples stand -/
def Ts (H H' : Hp) : Prop := ∀ b o, isT o = true → H b = some o → H' b = some o
theorem Ts.refl (H : Hp) : Ts H H := fun _ _ _ e => e
theorem Ts.trans {H H1 H2 : Hp} (a : Ts H H1) (b : Ts H1 H2) : Ts H H2 := fun c o h e => b c o h (a c o h e)
theorem tsS {H H' : Hp} (s : Same H H') : Ts H H' := fun b o _ e => s b o e
theorem Ts.tup {H H' : Hp} (t : Ts H H') {b : Addr} {xs : List V} (e : H b = some (.tup xs)) : H' b = some (.tup xs) := t b _ rfl e
theorem Ts.new {H : Hp} {p : Addr} {o : HO} (n : H p = none) : Ts H (upd H p o) := fun b u _ e => by
  rw [upd_ne (ne_of_none e n)]
  exact e
/-- a list, a dict is changed -/
theorem Ts.put {H : Hp} {p : Addr} {o u : HO} (e : H p = some u) (hu : isT u = false) : Ts H (upd H p o) := fun b v hv eb => by
  have : b ≠ p := fun z => by
    rw [z, e] at eb
    have := Option.some.inj eb
    rw [this, hv] at hu
    cases hu
  rw [upd_ne this]
  exact eb
theorem same_new {H : Hp} {p : Addr} {o : HO} (n : H p = none) : Same H (upd H p o) := fun b u e => by
  rw [upd_ne (ne_of_none e n)]
  exact e
theorem same_put {H H' : Hp} {p : Addr} {o : HO} (s : Same H H') (n : H p = none) : Same H (upd H' p o) := fun b u e => by
  rw [upd_ne (ne_of_none e n)]
  exact s b u e
theorem same_free {H H' : Hp} {p : Addr} (s : Same H H') (n : H' p = none) : H p = none := s.free n
/-- all but one object stand -/
def SameB (f : Addr) (H H' : Hp) : Prop := ∀ b o, b ≠ f → H b = some o → H' b = some o
theorem SameB.of {f : Addr} {H H' : Hp} (s : Same H H') : SameB f H H' := fun b o _ e => s b o e
theorem SameB.trans {f : Addr} {H H1 H2 : Hp} (a : SameB f H H1) (b : SameB f H1 H2) : SameB f H H2 := fun c o h e => b c o h (a c o h e)
theorem SameB.put {f : Addr} {H : Hp} {o : HO} : SameB f H (upd H f o) := fun b u h e => by
  rw [upd_ne h]
  exact e
theorem SameB.te {f : Addr} {H H' : Hp} {u : HO} (s : SameB f H H') (e : H f = some u) (hu : isT u = false) : Ts H H' := fun b o ho eb => s b o (fun z => by
  rw [z, e] at eb
  have := Option.some.inj eb
  rw [this, ho] at hu
  cases hu) eb
/-! ### data -/
abbrev TI (H : Hp) (a : Addr) (ns : List Int) : Prop := H a = some (.tup (ns.map V.int))
def vn (n : Nat) : V := .int (n : Int)
def MeetAt (H : Hp) (a : Addr) (m : Mt) : Prop := H a = some (.tup [vn m.a, vn m.b, vn m.c, vn m.d])
structure RuleAt (H : Hp) (a : Addr) (r : Rl) (s m y : Addr) (ms : List Addr) : Prop where
  top : H a = some (.tup [vn r.rooms, .ref s, .ref m, .ref y])
  starts : H s = some (.tup (r.starts.map vn))
  meets : H m = some (.tup (ms.map V.ref))
  each : Paired (fun p q => MeetAt H p q) ms r.meets
  says : H y = some (.tup (r.says.map V.bl))
def IsRule (H : Hp) (a : Addr) (r : Rl) : Prop := ∃ s m y ms, RuleAt H a r s m y ms
theorem paired_imp {α β : Type} {R S : α → β → Prop} (h : ∀ a b, R a b → S a b) : ∀ {l : List α} {m : List β}, Paired R l m → Paired S l m
  | _, _, .nil => .nil
  | _, _, .cons a t => .cons (h _ _ a) (paired_imp h t)
theorem RuleAt.te {H H' : Hp} {a s m y : Addr} {r : Rl} {ms : List Addr} (t : Ts H H') (h : RuleAt H a r s m y ms) : RuleAt H' a r s m y ms :=
  ⟨t.tup h.top, t.tup h.starts, t.tup h.meets, paired_imp (fun _ _ e => t.tup e) h.each, t.tup h.says⟩
theorem IsRule.te {H H' : Hp} {a : Addr} {r : Rl} (t : Ts H H') (h : IsRule H a r) : IsRule H' a r := by
  obtain ⟨s, m, y, ms, q⟩ := h
  exact ⟨s, m, y, ms, q.te t⟩
theorem RuleAt.nm {H : Hp} {a s m y : Addr} {r : Rl} {ms : List Addr} (h : RuleAt H a r s m y ms) : ms.length = r.meets.length := Paired.length h.each
theorem RuleAt.meet {H : Hp} {a s m y : Addr} {r : Rl} {ms : List Addr} (h : RuleAt H a r s m y ms) {n : Nat} {q : Mt} (e : r.meets[n]? = some q) : ∃ p, ms[n]? = some p ∧ MeetAt H p q := paired_at h.each e
theorem paired_at' {α β : Type} {R : α → β → Prop} : ∀ {l : List α} {m : List β} {i : Nat} {a : α}, Paired R l m → l[i]? = some a → ∃ b, m[i]? = some b ∧ R a b
  | _, _, _, _, .nil, e => by simp at e
  | _, _, 0, a, .cons (b := b) h t, e => ⟨b, rfl, (Option.some.inj e) ▸ h⟩
  | _, _, i + 1, a, .cons h t, e => by
    obtain ⟨b, h1, h2⟩ := paired_at' (i := i) t (by simpa using e)
    exact ⟨b, by simpa using h1, h2⟩
theorem paired_snoc {α β : Type} {R : α → β → Prop} {l : List α} {m : List β} {a : α} {b : β} (h : Paired R l m) (r : R a b) : Paired R (l ++ [a]) (m ++ [b]) := by
  induction h with
  | nil => exact .cons r .nil
  | cons x t ih => exact .cons x ih
theorem paired_map {α β : Type} {f : α → β} : ∀ {l : List α} {m : List β}, Paired (fun a b => b = f a) l m → m = l.map f
  | _, _, .nil => rfl
  | _, _, .cons h t => by rw [List.map_cons, ← paired_map t, h]
theorem at_nat {xs : List V} {n : Nat} {v : V} (h : xs[n]? = some v) : atI xs (n : Int) = some v := atI_nat h
theorem map_at {α : Type} {f : α → V} {l : List α} {n : Nat} {a : α} (h : l[n]? = some a) : (l.map f)[n]? = some (f a) := by
  rw [List.getElem?_map, h]
  rfl
theorem map_at' {α : Type} {f : α → V} {l : List α} {n : Nat} {v : V} (h : (l.map f)[n]? = some v) : ∃ a, l[n]? = some a ∧ v = f a := by
  rw [List.getElem?_map] at h
  cases e : l[n]? with
  | none => rw [e] at h; cases h
  | some a => rw [e] at h; exact ⟨a, rfl, (Option.some.inj h).symm⟩
theorem getD_at {l : List Int} {n : Nat} (h : n < l.length) : l[n]? = some (l.getD n 0) := by
  rw [List.getD_eq_getElem?_getD, List.getElem?_eq_getElem h]
  rfl
theorem small {n : Nat} (h : n ≤ 100000) : n < sizeLine := Nat.lt_of_le_of_lt h (by decide)
theorem smallL {n : Nat} (h : n ≤ 100000) : n ≤ sizeLine := Nat.le_of_lt (small h)
theorem inV_bl (b : Bool) (bs : List Bool) : inV (.bl b) (bs.map V.bl) = decide (b ∈ bs) := by
  induction bs with
  | nil => rfl
  | cons x r ih =>
    show (eqV (.bl x) (.bl b) || inV (.bl b) (r.map V.bl)) = _
    rw [ih]
    cases x <;> cases b <;> simp [eqV]
theorem flat_bl (bs : List Bool) : (bs.map V.bl).all flatV = true := by
  rw [List.all_map, List.all_eq_true]
  intro x _
  rfl
theorem inV_int (b : Int) (bs : List Int) : inV (.int b) (bs.map V.int) = decide (b ∈ bs) := by
  induction bs with
  | nil => rfl
  | cons x r ih =>
    show (eqV (.int x) (.int b) || inV (.int b) (r.map V.int)) = _
    rw [ih]
    by_cases h : x = b
    · subst h; simp [eqV]
    · simp [eqV, h, Ne.symm h]
theorem flat_int (bs : List Int) : (bs.map V.int).all flatV = true := by
  rw [List.all_map, List.all_eq_true]
  intro x _
  rfl
theorem list_at {l : List Int} {n : Nat} (h : n < l.length) : atI (l.map V.int) (n : Int) = some (.int (l.getD n 0)) := atI_nat (map_at (getD_at h))
/-! ### comprehensions -/
section
variable {J : It} {n : Nat} {G : Hp → Prop} {Y : Nat → Hp → V → Hp → Prop} {g : TG} {tt : TT} {te : TE} {vs : List Nat} {σ : L2.St} {H1 : Hp} {D : Addr} {Qd : Hp → Prop} {α : Type}
/-- the question of a comprehension -/
abbrev LcQ (J : It) (g : TG) (tt : TT) (te : TE) (vs : List Nat) (σ : L2.St) (H1 : Hp) (D : Addr) (Qd : Hp → Prop) : Prop :=
  ∃ W : Nat → Nat → Hp → Prop, (∃ m, W 0 m (upd H1 D (.lst []))) ∧ ∀ i m H, W i m H →
      (J.stop i H ∧ Qd H) ∨ (J.go i H ∧ ∃ Nx : Hp → Prop, (∀ H', Nx H' → ∃ m', m' < m ∧ W (i + 1) m' H') ∧ ∀ x H', J.yld i H x H' → g x (wipe σ vs) H' fun σ2 H2 => wipe σ2 vs = wipe σ vs ∧ tt σ2 H2 fun b H3 =>
        if b = true then te σ2 H3 fun y H4 => ∃ acc, H4 D = some (.lst acc) ∧ acc.length < sizeLine ∧ Nx (upd H4 D (.lst (acc ++ [y]))) else Nx H3)
theorem filter_take_yes {p : α → Bool} {as : List α} {i : Nat} {a : α} (h : as[i]? = some a) (hp : p a = true) : (as.take (i + 1)).filter p = (as.take i).filter p ++ [a] := by
  rw [List.take_add_one, h, List.filter_append]
  simp [hp]
theorem filter_take_no {p : α → Bool} {as : List α} {i : Nat} {a : α} (h : as[i]? = some a) (hp : p a = false) : (as.take (i + 1)).filter p = (as.take i).filter p := by
  rw [List.take_add_one, h, List.filter_append]
  simp [hp]
/-- the items as, those of them that pass p; R: what stands for an item; Iv: what holds of the heap before each turn -/
theorem lc_gen (w : Walk J n G Y) (as : List α) (hn : as.length = n) (hsm : n ≤ 100000) (p : α → Bool) (R : α → V → Hp → Prop) (Iv : Nat → Hp → Prop)
    (Rst : ∀ a y H H', Ts H H' → R a y H → R a y H') (h0 : Iv 0 (upd H1 D (.lst []))) (hG : ∀ i H, Iv i H → G H)
    (hs : ∀ (i : Nat) (a : α) (x : V) (H H' : Hp) (acc : List V) (KY : V → Hp → Prop) (KN : Hp → Prop), as[i]? = some a → Iv i H → H D = some (.lst acc) → Y i H x H' →
      (∀ y H4, p a = true → H4 D = some (.lst acc) → Ts H H4 → R a y H4 → Iv (i + 1) (upd H4 D (.lst (acc ++ [y]))) → KY y H4) →
      (∀ H3, p a = false → H3 D = some (.lst acc) → Ts H H3 → Iv (i + 1) H3 → KN H3) →
      g x (wipe σ vs) H' fun σ2 H2 => wipe σ2 vs = wipe σ vs ∧ tt σ2 H2 fun b H3 => if b = true then te σ2 H3 KY else KN H3)
    (hd : ∀ H ys, Iv n H → H D = some (.lst ys) → Paired (fun a y => R a y H) (as.filter p) ys → Qd H) : LcQ J g tt te vs σ H1 D Qd := by
  refine lc_it w (fun i H => Iv i H ∧ ∃ ys, H D = some (.lst ys) ∧ Paired (fun a y => R a y H) ((as.take i).filter p) ys) ⟨h0, [], upd_same, .nil⟩ (fun i H _ q => hG i H q.1) (fun i x H H' hi q y => ?_) (fun H q => ?_)
  · obtain ⟨q1, ys, eD, pr⟩ := q
    obtain ⟨a, ha⟩ : ∃ a, as[i]? = some a := ⟨as[i], List.getElem?_eq_getElem (by omega)⟩
    have hlen : ys.length < sizeLine := by
      have := Paired.length pr
      have h2 : ((as.take i).filter p).length ≤ i := Nat.le_trans (List.length_filter_le _ _) (by rw [List.length_take]; exact Nat.min_le_left _ _)
      exact small (by omega)
    refine hs i a x H H' ys _ _ ha q1 eD y (fun z H4 hp e4 t4 r4 iv => ⟨ys, e4, hlen, iv, ys ++ [z], upd_same, ?_⟩) (fun H3 hp e3 t3 iv => ⟨iv, ys, e3, ?_⟩)
    · rw [filter_take_yes ha hp]
      have t5 : Ts H (upd H4 D (.lst (ys ++ [z]))) := t4.trans (Ts.put e4 rfl)
      exact paired_snoc (paired_imp (fun _ _ r => Rst _ _ _ _ t5 r) pr) (Rst _ _ _ _ (Ts.put e4 rfl) r4)
    · rw [filter_take_no ha hp]
      exact paired_imp (fun _ _ r => Rst _ _ _ _ t3 r) pr
  · obtain ⟨q1, ys, eD, pr⟩ := q
    rw [List.take_of_length_le (by omega)] at pr
    exact hd H ys q1 eD pr
/-- where all that stood stands -/
theorem lc_same (w : Walk J n G Y) (as : List α) (hn : as.length = n) (hsm : n ≤ 100000) (p : α → Bool) (R : α → V → Hp → Prop) (nD : H1 D = none)
    (Rst : ∀ a y H H', Ts H H' → R a y H → R a y H') (hG : ∀ H, Same H1 H → G H)
    (hs : ∀ (i : Nat) (a : α) (x : V) (H H' : Hp) (KY : V → Hp → Prop) (KN : Hp → Prop), as[i]? = some a → Same H1 H → Y i H x H' →
      (∀ y H4, p a = true → Same H H4 → R a y H4 → KY y H4) → (∀ H3, p a = false → Same H H3 → KN H3) →
      g x (wipe σ vs) H' fun σ2 H2 => wipe σ2 vs = wipe σ vs ∧ tt σ2 H2 fun b H3 => if b = true then te σ2 H3 KY else KN H3)
    (hd : ∀ H ys, Same H1 H → H D = some (.lst ys) → Paired (fun a y => R a y H) (as.filter p) ys → Qd H) : LcQ J g tt te vs σ H1 D Qd :=
  lc_gen w as hn hsm p R (fun _ H => Same H1 H) Rst (same_new nD) (fun _ H s => hG H s)
    (fun i a x H H' acc KY KN ha s eD y ky kn => hs i a x H H' KY KN ha s y (fun z H4 hp s4 r => ky z H4 hp (s4 _ _ eD) (tsS s4) r (same_put (s.trans s4) nD)) (fun H3 hp s3 => kn H3 hp (s3 _ _ eD) (tsS s3) (s.trans s3))) hd
/-- no test -/
theorem lc_genm (w : Walk J n G Y) (as : List α) (hn : as.length = n) (hsm : n ≤ 100000) (R : α → V → Hp → Prop) (Iv : Nat → Hp → Prop)
    (Rst : ∀ a y H H', Ts H H' → R a y H → R a y H') (h0 : Iv 0 (upd H1 D (.lst []))) (hG : ∀ i H, Iv i H → G H)
    (hs : ∀ (i : Nat) (a : α) (x : V) (H H' : Hp) (acc : List V) (KY : V → Hp → Prop), as[i]? = some a → Iv i H → H D = some (.lst acc) → Y i H x H' →
      (∀ y H4, H4 D = some (.lst acc) → Ts H H4 → R a y H4 → Iv (i + 1) (upd H4 D (.lst (acc ++ [y]))) → KY y H4) →
      g x (wipe σ vs) H' fun σ2 H2 => wipe σ2 vs = wipe σ vs ∧ te σ2 H2 KY)
    (hd : ∀ H ys, Iv n H → H D = some (.lst ys) → Paired (fun a y => R a y H) as ys → Qd H) : LcQ J g tYes te vs σ H1 D Qd := by
  refine lc_gen w as hn hsm (fun _ => true) R Iv Rst h0 hG (fun i a x H H' acc KY KN ha iv eD y ky kn => ?_) (fun H ys iv eD pr => hd H ys iv eD ?_)
  · exact hs i a x H H' acc KY ha iv eD y fun z H4 e t r iv' => ky z H4 rfl e t r iv'
  · rw [List.filter_eq_self.mpr (fun _ _ => rfl)] at pr
    exact pr
theorem lc_map (w : Walk J n G Y) (as : List α) (hn : as.length = n) (hsm : n ≤ 100000) (R : α → V → Hp → Prop) (nD : H1 D = none)
    (Rst : ∀ a y H H', Ts H H' → R a y H → R a y H') (hG : ∀ H, Same H1 H → G H)
    (hs : ∀ (i : Nat) (a : α) (x : V) (H H' : Hp) (KY : V → Hp → Prop), as[i]? = some a → Same H1 H → Y i H x H' → (∀ y H4, Same H H4 → R a y H4 → KY y H4) →
      g x (wipe σ vs) H' fun σ2 H2 => wipe σ2 vs = wipe σ vs ∧ te σ2 H2 KY)
    (hd : ∀ H ys, Same H1 H → H D = some (.lst ys) → Paired (fun a y => R a y H) as ys → Qd H) : LcQ J g tYes te vs σ H1 D Qd :=
  lc_genm w as hn hsm R (fun _ H => Same H1 H) Rst (same_new nD) (fun _ H s => hG H s)
    (fun i a x H H' acc KY ha s eD y ky => hs i a x H H' KY ha s y (fun z H4 s4 r => ky z H4 (s4 _ _ eD) (tsS s4) r (same_put (s.trans s4) nD))) hd
/-- items told as they are -/
theorem lc_pure (w : Walk J n G Y) (as : List α) (hn : as.length = n) (hsm : n ≤ 100000) (f : α → V) (nD : H1 D = none) (hG : ∀ H, Same H1 H → G H)
    (hs : ∀ (i : Nat) (a : α) (x : V) (H H' : Hp) (KY : V → Hp → Prop), as[i]? = some a → Same H1 H → Y i H x H' → (∀ H4, Same H H4 → KY (f a) H4) →
      g x (wipe σ vs) H' fun σ2 H2 => wipe σ2 vs = wipe σ vs ∧ te σ2 H2 KY)
    (hd : ∀ H, Same H1 H → H D = some (.lst (as.map f)) → Qd H) : LcQ J g tYes te vs σ H1 D Qd :=
  lc_map w as hn hsm (fun a y _ => y = f a) nD (fun _ _ _ _ _ r => r) hG (fun i a x H H' KY ha s y ky => hs i a x H H' KY ha s y fun H4 s4 => ky _ H4 s4 rfl) fun H ys s eD pr => by
    have := paired_map pr
    subst this
    exact hd H s eD
/-- the same with a test -/
theorem lc_filt (w : Walk J n G Y) (as : List α) (hn : as.length = n) (hsm : n ≤ 100000) (p : α → Bool) (f : α → V) (nD : H1 D = none) (hG : ∀ H, Same H1 H → G H)
    (hs : ∀ (i : Nat) (a : α) (x : V) (H H' : Hp) (KY : V → Hp → Prop) (KN : Hp → Prop), as[i]? = some a → Same H1 H → Y i H x H' → (∀ H4, p a = true → Same H H4 → KY (f a) H4) → (∀ H3, p a = false → Same H H3 → KN H3) →
      g x (wipe σ vs) H' fun σ2 H2 => wipe σ2 vs = wipe σ vs ∧ tt σ2 H2 fun b H3 => if b = true then te σ2 H3 KY else KN H3)
    (hd : ∀ H, Same H1 H → H D = some (.lst ((as.filter p).map f)) → Qd H) : LcQ J g tt te vs σ H1 D Qd :=
  lc_same w as hn hsm p (fun a y _ => y = f a) nD (fun _ _ _ _ _ r => r) hG (fun i a x H H' KY KN ha s y ky kn => hs i a x H H' KY KN ha s y (fun H4 hp s4 => ky _ H4 hp s4 rfl) kn) fun H ys s eD pr => by
    have := paired_map pr
    subst this
    exact hd H s eD
end
end KH

namespace KH
open PySem PySem.Spec PyProof.Rows L2 KM
/-! ### dicts keyed by crowds -/
abbrev ck (c : List Int) : List Key := c.map Sum.inl
theorem valV_asg (c : List Int) : ∀ ps : List (List Int × V), valV (asg ps) (ck c) = valV ps c
  | [] => rfl
  | p :: ps => by
    show valV ((ck p.1, p.2) :: asg ps) (ck c) = _
    by_cases e : p.1 = c
    · rw [valV_pos (p := (ck p.1, p.2)) (by rw [e]), valV_pos e]
    · rw [valV_neg (p := (ck p.1, p.2)) (fun z => e (ck_inj z)), valV_neg e, valV_asg c ps]
theorem putK_asg (c : List Int) (v : V) (ps : List (List Int × V)) : putK (asg ps) (ck c) v = asg (putK ps c v) := by
  have e : ((asg ps).any fun kv => decide (kv.1 = ck c)) = ps.any fun kv => decide (kv.1 = c) := by
    rw [valV_any, valV_any, valV_asg]
  unfold putK
  rw [e]
  split
  · unfold asg
    rw [List.map_map, List.map_map]
    refine List.map_congr_left fun p _ => ?_
    show (if ck p.1 = ck c then (ck p.1, v) else (ck p.1, p.2)) = (ck (if p.1 = c then (p.1, v) else p).1, (if p.1 = c then (p.1, v) else p).2)
    by_cases h : p.1 = c
    · rw [if_pos h, if_pos (by rw [h])]
    · rw [if_neg h, if_neg (fun z => h (ck_inj z))]
  · unfold asg
    rw [List.map_append]
    rfl
theorem len_asg (ps : List (List Int × V)) : (asg ps).length = ps.length := List.length_map _
theorem tiK {H : Hp} {b : Addr} {c : List Int} (h : TI H b c) : H b = some (.tup ((ck c).map kV)) := by
  rw [ck_kV]
  exact h
theorem dget_c {H : Hp} {d b : Addr} {ps : List (List Int × V)} {c : List Int} (e : H d = some (.dT (asg ps))) (eb : TI H b c) : DGet H d (.ref b) (valV ps c) := by
  rw [← valV_asg]
  exact DGet.t e (tiK eb)
theorem dget_f {H : Hp} {d b : Addr} {o : Obj} {ps : List (List Int × V)} {c : List Int} (e : H d = some (.frz o (.dT (asg ps)))) (eb : TI H b c) : DGet H d (.ref b) (valV ps c) := by
  rw [← valV_asg]
  exact .inr ⟨_, _, b, .inr ⟨o, e⟩, rfl, tiK eb, rfl⟩
theorem dput_c {H : Hp} {d b : Addr} {ps : List (List Int × V)} {c : List Int} {v : V} (e : H d = some (.dT (asg ps))) (eb : TI H b c) (hl : ps.length < sizeLine) : DPut H d (.ref b) v (upd H d (.dT (asg (putK ps c v)))) := by
  rw [← putK_asg]
  exact DPut.t e (tiK eb) (by rw [len_asg]; exact hl)
theorem valV_some_iff {ps : List (List Int × V)} {c : List Int} : (valV ps c).isSome = decide (c ∈ ps.map (·.1)) := by
  cases e : valV ps c with
  | none => exact (decide_eq_false (valV_not e)).symm
  | some v => exact (decide_eq_true (valV_in e)).symm
theorem valV_none {ps : List (List Int × V)} {c : List Int} (h : c ∉ ps.map (·.1)) : valV ps c = none := by
  cases e : valV ps c with
  | none => rfl
  | some v => exact absurd (valV_in e) h
theorem valV_mem : ∀ {ps : List (List Int × V)} {c : List Int} {v : V}, (ps.map (·.1)).Nodup → (c, v) ∈ ps → valV ps c = some v
  | p :: ps, c, v, hn, h => by
    obtain ⟨h1, h2⟩ := List.nodup_cons.mp (show (p.1 :: ps.map (·.1)).Nodup from hn)
    rcases List.mem_cons.mp h with q | q
    · subst q
      exact valV_pos rfl
    · rw [valV_neg (fun z => h1 (List.mem_map.mpr ⟨(c, v), q, z.symm⟩))]
      exact valV_mem h2 q
theorem valV_get : ∀ {ps : List (List Int × V)} {c : List Int} {v : V}, valV ps c = some v → (c, v) ∈ ps
  | [], _, _, h => by cases h
  | p :: ps, c, v, h => by
    by_cases e : p.1 = c
    · rw [valV_pos e] at h
      have := Option.some.inj h
      obtain ⟨p1, p2⟩ := p
      simp only at e this
      subst e this
      exact List.mem_cons_self
    · rw [valV_neg e] at h
      exact List.mem_cons_of_mem _ (valV_get h)
theorem putK_new' {ps : List (List Int × V)} {c : List Int} (v : V) (h : c ∉ ps.map (·.1)) : putK ps c v = ps ++ [(c, v)] := putK_new v (valV_none h)
/-! ### lists of references -/
theorem refs_of {α : Type} {S : Addr → α → Prop} : ∀ {as : List α} {ys : List V}, Paired (fun a y => ∃ t, y = V.ref t ∧ S t a) as ys → ∃ ts : List Addr, ys = ts.map V.ref ∧ Paired S ts as
  | _, _, .nil => ⟨[], rfl, .nil⟩
  | _, _, .cons ⟨t, e, h⟩ r => by
    obtain ⟨ts, e2, h2⟩ := refs_of r
    exact ⟨t :: ts, by rw [e, e2]; rfl, .cons h h2⟩
/-! ### graphs -/
def StepAt (H : Hp) (t : Addr) (s : Nat × Crowd) : Prop := ∃ b, H t = some (.tup [vn s.1, .ref b]) ∧ TI H b s.2
theorem StepAt.te {H H' : Hp} (t : Ts H H') {a : Addr} {s : Nat × Crowd} (h : StepAt H a s) : StepAt H' a s := by
  obtain ⟨b, h1, h2⟩ := h
  exact ⟨b, t.tup h1, t.tup h2⟩
def StepsAt (H : Hp) (l : Addr) (ss : List (Nat × Crowd)) : Prop := ∃ ts : List Addr, H l = some (.lst (ts.map V.ref)) ∧ Paired (StepAt H) ts ss
theorem StepsAt.keep {H H' : Hp} {x l : Addr} {ss : List (Nat × Crowd)} (s : SameB x H H') (t : Ts H H') (hl : l ≠ x) (h : StepsAt H l ss) : StepsAt H' l ss := by
  obtain ⟨ts, h1, h2⟩ := h
  exact ⟨ts, s _ _ hl h1, paired_imp (fun _ _ q => q.te t) h2⟩
theorem StepsAt.same {H H' : Hp} {l : Addr} {ss : List (Nat × Crowd)} (s : Same H H') (h : StepsAt H l ss) : StepsAt H' l ss := by
  obtain ⟨ts, h1, h2⟩ := h
  exact ⟨ts, s _ _ h1, paired_imp (fun _ _ q => q.te (tsS s)) h2⟩
/-- the entries: each a list of steps, none of them the list at L -/
def GB (H : Hp) (r : Rl) (L : Addr → Prop) (ps : List (List Int × V)) : Prop := ∀ p ∈ ps, ∃ l, p.2 = .ref l ∧ ¬ L l ∧ StepsAt H l (stepsL r p.1)
theorem GB.same {H H' : Hp} {r : Rl} {L : Addr → Prop} {ps : List (List Int × V)} (s : Same H H') (h : GB H r L ps) : GB H' r L ps := fun p hp => by
  obtain ⟨l, h1, h2, h3⟩ := h p hp
  exact ⟨l, h1, h2, h3.same s⟩
theorem GB.keep {H H' : Hp} {x : Addr} {r : Rl} {L : Addr → Prop} {ps : List (List Int × V)} (s : SameB x H H') (t : Ts H H') (hx : ∀ l, (∃ xs, H l = some (.lst xs)) → ¬ L l → l ≠ x) (h : GB H r L ps) : GB H' r L ps := fun p hp => by
  obtain ⟨l, h1, h2, h3⟩ := h p hp
  obtain ⟨ts, e, _⟩ := id h3
  exact ⟨l, h1, h2, h3.keep s t (hx l ⟨_, e⟩ h2)⟩
theorem GB.mono {H : Hp} {r : Rl} {L L' : Addr → Prop} {ps : List (List Int × V)} (hl : ∀ l, (∃ xs, H l = some (.lst xs)) → L' l → L l) (h : GB H r L ps) : GB H r L' ps := fun p hp => by
  obtain ⟨l, h1, h2, h3⟩ := h p hp
  obtain ⟨ts, e, _⟩ := id h3
  exact ⟨l, h1, fun z => h2 (hl l ⟨_, e⟩ z), h3⟩
def noL : Addr → Prop := fun _ => False
/-- a graph: its crowds in their order, all their steps -/
def GraphAt (H : Hp) (d : Addr) (r : Rl) (ks : List Crowd) : Prop := ∃ ps, H d = some (.dT (asg ps)) ∧ ps.map (·.1) = ks ∧ ks.Nodup ∧ GB H r noL ps
theorem GraphAt.same {H H' : Hp} {d : Addr} {r : Rl} {ks : List Crowd} (s : Same H H') (h : GraphAt H d r ks) : GraphAt H' d r ks := by
  obtain ⟨ps, h1, h2, h3, h4⟩ := h
  exact ⟨ps, s _ _ h1, h2, h3, h4.same s⟩
/-- a list of crowds -/
def CrowdsAt (H : Hp) (l : Addr) (cs : List Crowd) : Prop := ∃ bs : List Addr, H l = some (.lst (bs.map V.ref)) ∧ Paired (TI H) bs cs
theorem CrowdsAt.same {H H' : Hp} {l : Addr} {cs : List Crowd} (s : Same H H') (h : CrowdsAt H l cs) : CrowdsAt H' l cs := by
  obtain ⟨ts, h1, h2⟩ := h
  exact ⟨ts, s _ _ h1, paired_imp (fun _ _ q => (tsS s).tup q) h2⟩
theorem CrowdsAt.keep {H H' : Hp} {x l : Addr} {cs : List Crowd} (s : SameB x H H') (t : Ts H H') (hl : l ≠ x) (h : CrowdsAt H l cs) : CrowdsAt H' l cs := by
  obtain ⟨ts, h1, h2⟩ := h
  exact ⟨ts, s _ _ hl h1, paired_imp (fun _ _ q => t.tup q) h2⟩
theorem CrowdsAt.len {H : Hp} {l : Addr} {cs : List Crowd} (h : CrowdsAt H l cs) : ∃ bs : List Addr, bs.length = cs.length ∧ H l = some (.lst (bs.map V.ref)) ∧ Paired (TI H) bs cs := by
  obtain ⟨bs, h1, h2⟩ := h
  exact ⟨bs, Paired.length h2, h1, h2⟩
/-- d holds the truth True of each of the crowds -/
abbrev trueD (cs : List Crowd) : List (List Int × V) := cs.map fun c => (c, .bl true)
theorem trueD_keys (cs : List Crowd) : (trueD cs).map (·.1) = cs := by rw [List.map_map]; exact List.map_id cs
end KH

namespace KH
open PySem PySem.Spec PyProof.Rows L2 KM
section
variable {P : Program} {w : World} {K : PySem.W.Frag} {mg : Str → Option Value} {base : Heap} {ad : Nat → Addr} {fd : Nat → FuncData}
def spIsWhole : Sp := fun vs H Q _ => ∃ n : Int, vs = [.int n] ∧ Q (.bl true) H
theorem ok7 (T : Tx K mg ad fd) : FnOk P w K mg base CX0 1 (ad 7) (fd 7) P7 spIsWhole := by
  have nd := sc7.nd
  refine T.f_is_whole.ok sc7 (fun vs H Q E h => ?_) (fun cdv A outer s H vs Q E hr h => ?_)
  · obtain ⟨n, rfl, _⟩ := h
    rfl
  · obtain ⟨n, rfl, q⟩ := h
    refine ⟨_, PSs.nox (pss_one (ps_ret (pe_and (pe_callB (KW.isi K) (by rfl) T.b_isinstance (by decide +kernel) (pa_cons (pv 0) (pa_cons (pe_bltn (v := .ty "int") (u := .type "int") (by rfl) T.b_int (by decide +kernel) rfl) pa_nil))) (pe_one (pe_not (pe_callB (KW.isi K) (by rfl) T.b_isinstance (by decide +kernel) (pa_cons (pv 0) (pa_cons (pe_bltn (v := .ty "bool") (u := .type "bool") (by rfl) T.b_bool (by decide +kernel) rfl) pa_nil)))))))), ?_⟩
    refine ⟨.int n, rfl, .int n, .ty "int", _, _, true, rfl, .ty _, .base (.int n), kit_ty (by decide +kernel), true, rfl, ?_⟩
    refine iteT ⟨.int n, rfl, .int n, .ty "bool", _, _, false, rfl, .ty _, .base (.int n), kit_ty (by decide +kernel), false, rfl, q⟩
def spIsFrom : Sp := fun vs H Q _ => ∃ n a b : Int, vs = [.int n, .int a, .int b] ∧ Q (.bl (decide (a ≤ n) && decide (n ≤ b))) H
theorem ok8 (T : Tx K mg ad fd) : FnOk P w K mg base CX0 2 (ad 8) (fd 8) P8 spIsFrom := by
  have nd := sc8.nd
  have G7 := ok7 (P := P) (w := w) (base := base) T
  refine T.f_is_from.ok sc8 (fun vs H Q E h => ?_) (fun cdv A outer s H vs Q E hr h => ?_)
  · obtain ⟨n, a, b, rfl, _⟩ := h
    rfl
  · obtain ⟨n, a, b, rfl, q⟩ := h
    refine ⟨_, PSs.nox (pss_one (ps_ret (pe_and (pe_call G7 (hr.mono (by decide)) (by rfl) T.g_is_whole T.f_is_whole.kp T.b_is_whole .nil pass0 (pa_cons (pv 0) pa_nil)) (pe_one (pe_chain op_le op_le (pv 1) (pv 0) (pv 2)))))), ?_⟩
    refine ⟨.int n, rfl, n, rfl, true, rfl, iteT ?_⟩
    refine ⟨.int a, rfl, .int n, rfl, a, n, rfl, rfl, _, rfl, ?_⟩
    by_cases h1 : a ≤ n
    · rw [decide_eq_true h1] at q ⊢
      exact iteT ⟨.int b, rfl, n, b, rfl, rfl, by simpa using q⟩
    · rw [decide_eq_false h1] at q ⊢
      exact iteF (by simpa using q)
end
end KH

namespace KH
open PySem PySem.Spec PyProof.Rows L2 KM
section
variable {P : Program} {w : World} {K : PySem.W.Frag} {mg : Str → Option Value} {base : Heap} {ad : Nat → Addr} {fd : Nat → FuncData}
/-! ### is_counts -/
def spIsCounts : Sp := fun vs H Q _ => ∃ (n : Nat) (a : Addr) (cs : List Int), vs = [vn n, .ref a] ∧ TI H a cs ∧ Cs n cs ∧ n ≤ 1000 ∧ ∀ H', Same H H' → Q (.bl true) H'
theorem ok9 (T : Tx K mg ad fd) : FnOk P w K mg base CX0 3 (ad 9) (fd 9) P9 spIsCounts := by
  have nd := sc9.nd
  have G8 := ok8 (P := P) (w := w) (base := base) T
  refine T.f_is_counts.ok sc9 (fun vs H Q E h => ?_) (fun cdv A outer s H vs Q E hr h => ?_)
  · obtain ⟨n, a, cs, rfl, _⟩ := h
    rfl
  · obtain ⟨n, a, cs, rfl, ha, hc, hn, q⟩ := h
    obtain ⟨tM, hM⟩ := T.m_MOST_HANDS_rules
    refine ⟨_, PSs.nox (pss_cons (ps_if (PW.pt (pw_or (pt_not (pt_val (pe_callB (KW.isi K) (by rfl) T.b_isinstance (by decide +kernel) (pa_cons (pv 1) (pa_cons (pe_bltn (v := .ty "tuple") (u := .type "tuple") (by rfl) T.b_tuple (by decide +kernel) rfl) pa_nil))))) (pw_or1 (pt_cmpR op_ne (pe_callB (KW.lenS K) (by rfl) T.b_len (by decide +kernel) (pa_cons (pv 1) pa_nil)) (pv 0) (nomark _)))))
    (pss_one (ps_ret pe_bl))
    pss_nil)
  (pss_one (ps_ret (pe_and (pe_cmpR (KW.notInS K) pe_bl (pe_lc (own := [("one", 2)]) (g := (gName 2)) (tt := tYes) (by rfl) nd (pi_tup (pv 1)) (blkOk_by (N := N9) (sc := defScope (topS 9)) (by decide +kernel)) (fun _ _ _ _ _ => pg_name (i := 2) nd rfl (Or.inl rfl)) (fun _ _ _ _ _ => pts_nil) (fun _ _ _ _ _ => (pe_call G8 (hr.mono (by decide)) (by rfl) T.g_is_from T.f_is_from.kp T.b_is_from .nil pass0 (pa_cons (pv 2) (pa_cons pe_int (pa_cons (pe_glob (v := .int 1000000) (by rfl) hM ⟨tM, rfl⟩) pa_nil)))))) (by with_unfolding_all rfl)) (pe_one (pe_cmpR op_gt (pe_callB (KW.sumT K) (by rfl) T.b_sum (by decide +kernel) (pa_cons (pv 1) pa_nil)) pe_int (nomark _))))))), ?_⟩
    refine ⟨.ref a, rfl, .ref a, .ty "tuple", _, _, true, rfl, .ty _, .base (.tup ha), kit_ty (by decide +kernel), true, rfl, iteF ?_⟩
    refine ⟨.ref a, rfl, a, cs.map V.int, rfl, .inr (SqT.of ha), vn n, rfl, rfl, _, rfl, ?_⟩
    have e1 : V.int ((cs.map V.int).length : Int) = vn n := by rw [List.length_map, hc.len]; rfl
    refine iteNS e1 ?_
    refine ⟨.ref a, rfl, a, rfl, ⟨_, SqT.of ha⟩, fun D nD => lc_pure (walk_tup (xs := cs.map V.int)) cs (by simp) (by rw [List.length_map, hc.len]; omega) (fun _ => .bl true) nD (fun H1 s1 => SqT.of (s1 _ _ ha)) (fun i x y H1 H2 KY hi s1 hy ky => ?_) (fun H1 s1 eD => ?_)⟩
    · obtain ⟨rfl, hx⟩ := hy
      obtain ⟨x', hx', rfl⟩ := map_at' hx
      rw [hi] at hx'
      cases hx'
      have h0 := hc.pos x (List.mem_of_getElem? hi)
      have hle : x ≤ 1000000 := by
        have := le_sum hc.pos (List.mem_of_getElem? hi)
        have := hc.sum4
        omega
      refine ⟨rfl, .int x, rfl, x, 0, 1000000, rfl, ?_⟩
      rw [decide_eq_true h0, decide_eq_true hle]
      exact ky _ (Same.refl _)
    · have ey : (cs.map fun _ => V.bl true) = (cs.map fun _ => true).map V.bl := by rw [List.map_map]; rfl
      rw [ey] at eD
      refine ⟨D, _, rfl, .inl (SqL.of eD), rfl, flat_bl _, true, ?_, iteT ?_⟩
      · rw [inV_bl]
        simp
      · refine ⟨.ref a, rfl, a, cs, rfl, SqT.of (s1 _ _ ha), cs.sum, 0, rfl, rfl, ?_⟩
        have h1 := hc.sum1
        show Q (.bl (decide ((0 : Int) < cs.sum))) H1
        rw [decide_eq_true (show (0 : Int) < cs.sum by omega)]
        exact q H1 s1
/-! ### is_crowd -/
def spIsCrowd : Sp := fun vs H Q _ => ∃ (a b : Addr) (r : Rl) (c : List Int), vs = [.ref a, .ref b] ∧ IsRule H a r ∧ TI H b c ∧ c.length ≤ 1000 ∧ ∀ H', Same H H' → Q (.bl (isCrowdB r.rooms c)) H'
theorem ok11 (T : Tx K mg ad fd) : FnOk P w K mg base CX0 3 (ad 11) (fd 11) P11 spIsCrowd := by
  have nd := sc11.nd
  have G7 := ok7 (P := P) (w := w) (base := base) T
  refine T.f_is_crowd.ok sc11 (fun vs H Q E h => ?_) (fun cdv A outer s H vs Q E hr h => ?_)
  · obtain ⟨a, b, r, c, rfl, _⟩ := h
    rfl
  · obtain ⟨a, b, r, c, rfl, ⟨sa, ma, ya, ms, hR⟩, hc, hl, q⟩ := h
    refine ⟨_, PSs.nox (pss_cons (ps_if (PW.pt (pw_or (pt_not (pt_val (pe_callB (KW.isi K) (by rfl) T.b_isinstance (by decide +kernel) (pa_cons (pv 1) (pa_cons (pe_bltn (v := .ty "tuple") (u := .type "tuple") (by rfl) T.b_tuple (by decide +kernel) rfl) pa_nil))))) (pw_or1 (pt_cmpR op_ne (pe_callB (KW.lenS K) (by rfl) T.b_len (by decide +kernel) (pa_cons (pv 1) pa_nil)) (pe_ix (KW.ixT K) (pv 0) pe_int (fun _ _ => rfl)) (nomark _)))))
    (pss_one (ps_ret pe_bl))
    pss_nil)
  (pss_cons (ps_if (pt_cmpR (KW.inS K) pe_bl (pe_lc (own := [("one", 2)]) (g := (gName 2)) (tt := tYes) (by rfl) nd (pi_tup (pv 1)) (blkOk_by (N := N11) (sc := defScope (topS 11)) (by decide +kernel)) (fun _ _ _ _ _ => pg_name (i := 2) nd rfl (Or.inl rfl)) (fun _ _ _ _ _ => pts_nil) (fun _ _ _ _ _ => (pe_and (pe_call G7 (hr.mono (by decide)) (by rfl) T.g_is_whole T.f_is_whole.kp T.b_is_whole .nil pass0 (pa_cons (pv 2) pa_nil)) (pe_one (pe_cmpR op_ge (pv 2) pe_int (nomark _)))))) (by with_unfolding_all rfl))
    (pss_one (ps_ret pe_bl))
    pss_nil)
  (pss_one (ps_ret (pe_cmpR op_gt (pe_callB (KW.sumT K) (by rfl) T.b_sum (by decide +kernel) (pa_cons (pv 1) pa_nil)) pe_int (nomark _)))))), ?_⟩
    refine ⟨.ref b, rfl, .ref b, .ty "tuple", _, _, true, rfl, .ty _, .base (.tup hc), kit_ty (by decide +kernel), true, rfl, iteF ?_⟩
    refine ⟨.ref b, rfl, b, c.map V.int, rfl, .inr (SqT.of hc), .ref a, rfl, a, _, 0, _, rfl, rfl, SqT.of hR.top, at_nat (n := 0) rfl, rfl, _, rfl, ?_⟩
    have e1 : V.int ((c.map V.int).length : Int) = V.int (c.length : Int) := by rw [List.length_map]
    unfold isCrowdB at q
    rw [e1]
    by_cases hn : c.length = r.rooms
    · refine iteNS (by rw [hn]; rfl) ?_
      rw [decide_eq_true hn, Bool.true_and] at q
      refine ⟨.ref b, rfl, b, rfl, ⟨_, SqT.of hc⟩, fun D nD => lc_pure (walk_tup (xs := c.map V.int)) c (by simp) (by rw [List.length_map]; omega) (fun x => .bl (decide (0 ≤ x))) nD (fun H1 s1 => SqT.of (s1 _ _ hc)) (fun i x y H1 H2 KY hi s1 hy ky => ?_) (fun H1 s1 eD => ?_)⟩
      · obtain ⟨rfl, hx⟩ := hy
        obtain ⟨x', hx', rfl⟩ := map_at' hx
        rw [hi] at hx'
        cases hx'
        exact ⟨rfl, .int x, rfl, x, rfl, true, rfl, iteT ⟨.int x, rfl, x, 0, rfl, rfl, ky _ (Same.refl _)⟩⟩
      · have ey : (c.map fun x => V.bl (decide (0 ≤ x))) = (c.map fun x => decide (0 ≤ x)).map V.bl := by rw [List.map_map]; rfl
        rw [ey] at eD
        refine ⟨D, _, rfl, .inl (SqL.of eD), rfl, flat_bl _, _, rfl, ?_⟩
        rw [show (if false = true then !inV (V.bl false) ((c.map fun x => decide (0 ≤ x)).map V.bl) else inV (V.bl false) ((c.map fun x => decide (0 ≤ x)).map V.bl)) = inV (V.bl false) ((c.map fun x => decide (0 ≤ x)).map V.bl) from rfl, inV_bl]
        by_cases hp : ∀ x ∈ c, 0 ≤ x
        · have e2 : ¬ false ∈ c.map fun x => decide (0 ≤ x) := fun m => by
            obtain ⟨x, hx, e⟩ := List.mem_map.mp m
            rw [decide_eq_true (hp x hx)] at e
            cases e
          rw [decide_eq_false e2]
          refine iteF ⟨.ref b, rfl, b, c, rfl, SqT.of (s1 _ _ hc), c.sum, 0, rfl, rfl, ?_⟩
          have e3 : (c.all fun x => decide (0 ≤ x)) = true := List.all_eq_true.mpr fun x hx => decide_eq_true (hp x hx)
          rw [e3, Bool.true_and] at q
          exact q H1 s1
        · have e2 : false ∈ c.map fun x => decide (0 ≤ x) := by
            simp only [Classical.not_forall] at hp
            obtain ⟨x, hx, h0⟩ := hp
            exact List.mem_map.mpr ⟨x, hx, decide_eq_false h0⟩
          rw [decide_eq_true e2]
          have e3 : (c.all fun x => decide (0 ≤ x)) = false := by
            rw [Bool.eq_false_iff]
            intro h
            exact hp fun x hx => of_decide_eq_true (List.all_eq_true.mp h x hx)
          rw [e3, Bool.false_and] at q
          exact iteT (q H1 s1)
    · have e2 : decide (V.int (c.length : Int) = vn r.rooms) = false := decide_eq_false fun z => hn (by
        have := V.int.inj z
        omega)
      rw [e2]
      rw [decide_eq_false hn, Bool.false_and] at q
      exact iteT (q H (Same.refl H))
/-! ### begun -/
def spBegun : Sp := fun vs H Q _ => ∃ (a b : Addr) (r : Rl) (cs : List Int), vs = [.ref a, .ref b] ∧ IsRule H a r ∧ r.Ok ∧ TI H b cs ∧ cs.length = r.starts.length ∧
  ∀ H' p, Same H H' → H p = none → TI H' p (begun r cs) → Q (.ref p) H'
theorem zip_take_succ {α β : Type} {l : List α} {m : List β} {i : Nat} {a : α} {b : β} (h1 : l[i]? = some a) (h2 : m[i]? = some b) : (l.zip m).take (i + 1) = (l.zip m).take i ++ [(a, b)] := by
  have : (l.zip m)[i]? = some (a, b) := List.getElem?_zip_eq_some.mpr ⟨h1, h2⟩
  rw [List.take_add_one, this]
  rfl
theorem begunF_len (n : Nat) (l : List (Nat × Int)) : (begunF n l).length = n := by
  unfold begunF
  have : ∀ (l : List (Nat × Int)) (c : List Int), (l.foldl (fun acc p => bmp acc p.1 p.2) c).length = c.length := by
    intro l
    induction l with
    | nil => intro c; rfl
    | cons p l ih => intro c; show (l.foldl _ (bmp c p.1 p.2)).length = _; rw [ih, bmp_len]
  rw [this]
  simp
theorem set_bump {l : List Int} {i : Nat} {k : Int} : (l.map V.int).set i (.int (l.getD i 0 + k)) = (bmp l i k).map V.int := by
  unfold bmp
  rw [List.map_set]
theorem ixN_nat {n i : Nat} (h : i < n) : ixN n (i : Int) = some i := by
  unfold ixN
  rw [if_pos (by omega), if_pos (by omega)]
  simp
theorem ok12 (T : Tx K mg ad fd) : FnOk P w K mg base CX0 1 (ad 12) (fd 12) P12 spBegun := by
  have nd := sc12.nd
  refine T.f_begun.ok sc12 (fun vs H Q E h => ?_) (fun cdv A outer s H vs Q E hr h => ?_)
  · obtain ⟨a, b, r, c, rfl, _⟩ := h
    rfl
  · obtain ⟨a, b, r, cs, rfl, ⟨sa, ma, ya, ms, hR⟩, ho, hc, hl, q⟩ := h
    refine ⟨_, PSs.nox (pss_cons (ps_set (i := 2) nd rfl (Or.inl rfl) (pe_op op_rep (pe_lst (pa_cons pe_int pa_nil)) (pe_ix (KW.ixT K) (pv 0) pe_int (fun _ _ => rfl))))
  (pss_cons (ps_for PassesOwn.never rfl (pi_enumT (by rfl) T.b_enumerate (pa_cons (pv 1) pa_nil)) (pg_tup rfl (pgs_cons (pg_name (i := 3) nd rfl (Or.inl rfl)) (pgs_cons (pg_name (i := 4) nd rfl (Or.inl rfl)) pgs_nil)))
    (pss_cons (ps_set (i := 5) nd rfl (Or.inl rfl) (pe_ix (KW.ixT K) (pe_ix (KW.ixT K) (pv 0) pe_int (fun _ _ => rfl)) (pv 3) (fun _ _ => rfl)))
  (pss_one (ps_asg (pe_op op_add (pe_ix (KW.ixL K) (pv 2) (pv 5) (fun _ _ => rfl)) (pv 4)) (pg_sub (pv 2) (pv 5) set_list)))))
  (pss_one (ps_ret (pe_callTy (KW.tupO K) (by rfl) T.b_tuple (by decide +kernel) (pa_cons (pv 2) pa_nil)))))), ?_⟩
    refine ⟨by show 1 ≤ sizeLine; decide, fun z nz => ⟨.ref a, rfl, a, _, 0, vn r.rooms, rfl, rfl, SqT.of (same_new nz _ _ hR.top), at_nat (n := 0) rfl, z, (r.rooms : Int), _, rfl, rfl, upd_same, by have := ho.rooms5; omega, by have := ho.rooms5; omega, ?_, fun L nL => ?_⟩⟩
    · have := ho.rooms5
      simp only [List.length_singleton, Int.toNat_natCast, Nat.one_mul]
      exact smallL (by omega)
    have s1 : Same H (upd H z (.lst [.int 0])) := same_new nz
    have nLH : H L = none := same_free s1 nL
    have s2 : Same H (upd (upd H z (.lst [.int 0])) L (.lst (List.replicate (r.rooms : Int).toNat [V.int 0]).flatten)) := same_put s1 nLH
    refine ⟨.ref b, rfl, b, cs.map V.int, rfl, SqT.of (s2 _ _ hc), ?_⟩
    have eL : (List.replicate (r.rooms : Int).toNat [V.int 0]).flatten = (begunF r.rooms []).map V.int := by
      show _ = (List.replicate r.rooms (0 : Int)).map V.int
      simp
    rw [eL] at s2 ⊢
    refine for_it (walk_enumT (xs := cs.map V.int)) (fun i σ H1 => ∃ x3 x4 x5, σ = [some (.ref a), some (.ref b), some (.ref L), x3, x4, x5] ∧ Same H H1 ∧ H1 L = some (.lst ((begunF r.rooms ((r.starts.zip cs).take i)).map V.int)))
      ⟨none, none, none, rfl, s2, upd_same⟩ (fun i σ H1 _ hp => ?_) (fun i x σ H1 H2 hi hp hy => ?_) (fun σ H1 hp => ?_)
    · obtain ⟨_, _, _, _, s3, _⟩ := hp
      exact SqT.of (s3 _ _ hc)
    · obtain ⟨x3, x4, x5, rfl, s3, eH⟩ := hp
      obtain ⟨t, u, v, rfl, nt, rfl, hu, hv⟩ := hy
      cases hu
      obtain ⟨k, hk, rfl⟩ := map_at' hv
      have hi' : i < r.starts.length := by rw [← hl]; simpa using hi
      obtain ⟨st, hst⟩ : ∃ st, r.starts[i]? = some st := ⟨r.starts[i], List.getElem?_eq_getElem hi'⟩
      have hlt := ho.starts st (List.mem_of_getElem? hst)
      have s4 := same_new (o := .tup [.int (i : Nat), .int k]) nt
      have ht : H t = none := same_free s3 nt
      have s5 : Same H (upd H1 t (.tup [.int (i : Nat), .int k])) := s3.trans s4
      refine ⟨t, _, rfl, SqT.of upd_same, rfl, _, _, rfl, _, _, rfl, rfl, ?_⟩
      have eL2 := s4 _ _ eH
      obtain ⟨bl, ebl⟩ : ∃ bl, bl = begunF r.rooms ((r.starts.zip cs).take i) := ⟨_, rfl⟩
      rw [← ebl] at eH eL2
      have hbl : bl.length = r.rooms := by rw [ebl, begunF_len]
      refine ⟨.ref a, rfl, a, _, 1, _, rfl, rfl, SqT.of (s5 _ _ hR.top), at_nat (n := 1) rfl, .int (i : Nat), rfl, sa, _, _, vn st, rfl, rfl, SqT.of (s5 _ _ hR.starts), at_nat (map_at hst), ?_⟩
      refine ⟨.ref L, rfl, vn st, rfl, L, _, _, _, rfl, rfl, SqL.of eL2, list_at (by rw [hbl]; exact hlt), .int k, rfl, _, _, rfl, rfl, ?_⟩
      refine ⟨.ref L, rfl, vn st, rfl, L, _, _, st, rfl, rfl, eL2, by rw [List.length_map, hbl]; exact ixN_nat hlt, ?_⟩
      refine ⟨_, _, _, rfl, same_put s5 nLH, ?_⟩
      rw [upd_same, set_bump, zip_take_succ hst hk, begunF_snoc, ← ebl]
    · obtain ⟨x3, x4, x5, rfl, s3, eH⟩ := hp
      refine ⟨.ref L, rfl, L, _, rfl, SqL.of eH, fun p np => q _ p (same_put s3 (same_free s3 np)) (same_free s3 np) ?_⟩
      rw [List.take_of_length_le (by rw [List.length_zip, List.length_map]; omega)]
      exact upd_same
end
end KH

namespace KH
open PySem PySem.Spec PyProof.Rows L2 KM
section
variable {P : Program} {w : World} {K : PySem.W.Frag} {mg : Str → Option Value} {base : Heap} {ad : Nat → Addr} {fd : Nat → FuncData}
/-! ### may_be -/
def spMayBe : Sp := fun vs H Q _ => ∃ (a b : Addr) (c : List Int) (m : Mt) (n : Nat), vs = [.ref a, .ref b] ∧ TI H a c ∧ MeetAt H b m ∧ m.Ok n ∧ c.length = n ∧ Q (.bl (canB c m)) H
theorem ok13 (T : Tx K mg ad fd) : FnOk P w K mg base CX0 1 (ad 13) (fd 13) P13 spMayBe := by
  have nd := sc13.nd
  refine T.f_may_be.ok sc13 (fun vs H Q E h => ?_) (fun cdv A outer s H vs Q E hr h => ?_)
  · obtain ⟨a, b, c, m, n, rfl, _⟩ := h
    rfl
  · obtain ⟨a, b, c, m, n, rfl, hc, hm, ho, hl, q⟩ := h
    refine ⟨_, PSs.nox (pss_cons (ps_if (pt_cmpR op_eq (pe_ix (KW.ixT K) (pv 1) pe_int (fun _ _ => rfl)) (pe_ix (KW.ixT K) (pv 1) pe_int (fun _ _ => rfl)) (nomark _))
    (pss_one (ps_ret (pe_cmpR op_ge (pe_ix (KW.ixT K) (pv 0) (pe_ix (KW.ixT K) (pv 1) pe_int (fun _ _ => rfl)) (fun _ _ => rfl)) pe_int (nomark _))))
    pss_nil)
  (pss_one (ps_ret (pe_and (pe_cmpR op_ge (pe_ix (KW.ixT K) (pv 0) (pe_ix (KW.ixT K) (pv 1) pe_int (fun _ _ => rfl)) (fun _ _ => rfl)) pe_int (nomark _)) (pe_one (pe_cmpR op_ge (pe_ix (KW.ixT K) (pv 0) (pe_ix (KW.ixT K) (pv 1) pe_int (fun _ _ => rfl)) (fun _ _ => rfl)) pe_int (nomark _))))))), ?_⟩
    have hA : m.a < c.length := by rw [hl]; exact ho.a
    have hB : m.b < c.length := by rw [hl]; exact ho.b
    refine ⟨.ref b, rfl, b, _, 0, vn m.a, rfl, rfl, SqT.of hm, at_nat (n := 0) rfl, .ref b, rfl, b, _, 1, vn m.b, rfl, rfl, SqT.of hm, at_nat (n := 1) rfl, rfl, _, rfl, ?_⟩
    unfold canB at q
    by_cases e : m.a = m.b
    · rw [if_pos e] at q
      rw [decide_eq_true (show vn m.a = vn m.b by rw [e])]
      refine iteT ⟨.ref a, rfl, .ref b, rfl, b, _, 0, vn m.a, rfl, rfl, SqT.of hm, at_nat (n := 0) rfl, a, _, _, _, rfl, rfl, SqT.of hc, list_at hA, _, 2, rfl, rfl, q⟩
    · rw [if_neg e] at q
      rw [decide_eq_false (fun z => e (by have := V.int.inj z; omega))]
      refine iteF ⟨.ref a, rfl, .ref b, rfl, b, _, 0, vn m.a, rfl, rfl, SqT.of hm, at_nat (n := 0) rfl, a, _, _, _, rfl, rfl, SqT.of hc, list_at hA, _, 1, rfl, rfl, _, rfl, ?_⟩
      by_cases h1 : 1 ≤ c.getD m.a 0
      · rw [decide_eq_true h1, Bool.true_and] at q
        rw [decide_eq_true h1]
        exact iteT ⟨.ref a, rfl, .ref b, rfl, b, _, 1, vn m.b, rfl, rfl, SqT.of hm, at_nat (n := 1) rfl, a, _, _, _, rfl, rfl, SqT.of hc, list_at hB, _, 1, rfl, rfl, q⟩
      · rw [decide_eq_false h1, Bool.false_and] at q
        rw [decide_eq_false h1]
        exact iteF q
/-! ### can -/
def spCan : Sp := fun vs H Q _ => ∃ (a b : Addr) (r : Rl) (c : List Int), vs = [.ref a, .ref b] ∧ IsRule H a r ∧ r.Ok ∧ TI H b c ∧ c.length = r.rooms ∧
  ∀ H' p, Same H H' → H p = none → H' p = some (.lst ((canL r c).map vn)) → Q (.ref p) H'
theorem zipIdx_at {α : Type} {l : List α} {i : Nat} {a : α × Nat} (h : l.zipIdx[i]? = some a) : l[i]? = some a.1 ∧ a.2 = i := by
  rw [List.getElem?_zipIdx] at h
  cases e : l[i]? with
  | none => rw [e] at h; cases h
  | some x =>
    rw [e] at h
    have := Option.some.inj h
    subst this
    exact ⟨rfl, Nat.zero_add i⟩
theorem ok14 (T : Tx K mg ad fd) : FnOk P w K mg base CX0 2 (ad 14) (fd 14) P14 spCan := by
  have nd := sc14.nd
  have G13 := ok13 (P := P) (w := w) (base := base) T
  refine T.f_can.ok sc14 (fun vs H Q E h => ?_) (fun cdv A outer s H vs Q E hr h => ?_)
  · obtain ⟨a, b, r, c, rfl, _⟩ := h
    rfl
  · obtain ⟨a, b, r, c, rfl, ⟨sa, ma, ya, ms, hR⟩, ho, hc, hl, q⟩ := h
    refine ⟨_, PSs.nox (pss_one (ps_ret (pe_lc (own := [("number", 2), ("meeting", 3)]) (g := (gTup K 2 (gCons (gName 2) (gCons (gName 3) gNil)))) (by rfl) nd (pi_enumT (by rfl) T.b_enumerate (pa_cons (pe_ix (KW.ixT K) (pv 0) pe_int (fun _ _ => rfl)) pa_nil)) (blkOk_by (N := N14) (sc := defScope (topS 14)) (by decide +kernel)) (fun _ _ _ _ _ => pg_tup rfl (pgs_cons (pg_name (i := 2) nd rfl (Or.inl rfl)) (pgs_cons (pg_name (i := 3) nd rfl (Or.inl rfl)) pgs_nil))) (fun _ _ _ _ _ => pts_one (pt_val (pe_call G13 (hr.mono (by decide)) (by rfl) T.g_may_be T.f_may_be.kp T.b_may_be .nil pass0 (pa_cons (pv 1) (pa_cons (pv 3) pa_nil))))) (fun _ _ _ _ _ => (pv 2))))), ?_⟩
    have hm := ho.many
    have hz := hR.nm
    refine ⟨.ref a, rfl, a, _, 2, _, rfl, rfl, SqT.of hR.top, at_nat (n := 2) rfl, ma, _, rfl, SqT.of hR.meets, fun D nD => lc_filt (walk_enumT (xs := ms.map V.ref)) r.meets.zipIdx (by simp [hz]) (by rw [List.length_map, hz]; omega) (fun p => canB c p.1) (fun p => vn p.2) nD (fun H1 s1 => SqT.of (s1 _ _ hR.meets)) (fun i m x H1 H2 KY KN hi s1 hy ky kn => ?_) (fun H1 s1 eD => q H1 D s1 nD ?_)⟩
    · obtain ⟨t, u, v, rfl, nt, rfl, hu, hv⟩ := hy
      cases hu
      obtain ⟨h1, h2⟩ := zipIdx_at hi
      obtain ⟨p, hp, hv2⟩ := map_at' hv
      obtain ⟨p', hp', hM⟩ := hR.meet h1
      rw [hp] at hp'
      cases hp'
      subst hv2
      have s2 := same_new (o := .tup [.int (i : Nat), .ref p]) nt
      have mo := ho.meets m.1 (List.mem_of_getElem? h1)
      refine ⟨t, _, rfl, SqT.of upd_same, rfl, _, _, rfl, _, _, rfl, rfl, rfl, ?_⟩
      refine ⟨.ref b, rfl, .ref p, rfl, b, p, c, m.1, r.rooms, rfl, s2 _ _ (s1 _ _ hc), s2 _ _ (s1 _ _ hM), mo, hl, _, rfl, ?_⟩
      cases hcb : canB c m.1 with
      | true =>
        refine iteT ⟨_, rfl, ?_⟩
        have := ky _ hcb s2
        rw [h2] at this
        exact this
      | false => exact iteF (kn _ hcb s2)
    · unfold canL canP
      rw [List.map_map]
      exact eD
/-! ### crowd_behind -/
def spBehind : Sp := fun vs H Q _ => ∃ (a b : Addr) (c : List Int) (m : Mt) (n : Nat), vs = [.ref a, .ref b] ∧ TI H a c ∧ MeetAt H b m ∧ m.Ok n ∧ c.length = n ∧
  ∀ H' p, Same H H' → H p = none → TI H' p (behind c m) → Q (.ref p) H'
theorem ok15 (T : Tx K mg ad fd) : FnOk P w K mg base CX0 1 (ad 15) (fd 15) P15 spBehind := by
  have nd := sc15.nd
  refine T.f_crowd_behind.ok sc15 (fun vs H Q E h => ?_) (fun cdv A outer s H vs Q E hr h => ?_)
  · obtain ⟨a, b, c, m, n, rfl, _⟩ := h
    rfl
  · obtain ⟨a, b, c, m, n, rfl, hc, hm, ho, hl, q⟩ := h
    refine ⟨_, PSs.nox (pss_cons (ps_set (i := 2) nd rfl (Or.inl rfl) (pe_callTy (KW.lstO K) (by rfl) T.b_list (by decide +kernel) (pa_cons (pv 0) pa_nil)))
  (pss_cons (ps_for PassesOwn.never rfl (pi_tup (pe_slice (KW.slA K) (pv 1) po_none (po_some pe_int))) (pg_name (i := 3) nd rfl (Or.inl rfl))
    (pss_one (ps_asg (pe_op op_sub (pe_ix (KW.ixL K) (pv 2) (pv 3) (fun _ _ => rfl)) pe_int) (pg_sub (pv 2) (pv 3) set_list))))
  (pss_cons (ps_for PassesOwn.never rfl (pi_tup (pe_slice (KW.slA K) (pv 1) (po_some pe_int) po_none)) (pg_name (i := 3) nd rfl (Or.inl rfl))
    (pss_one (ps_asg (pe_op op_add (pe_ix (KW.ixL K) (pv 2) (pv 3) (fun _ _ => rfl)) pe_int) (pg_sub (pv 2) (pv 3) set_list))))
  (pss_one (ps_ret (pe_callTy (KW.tupO K) (by rfl) T.b_tuple (by decide +kernel) (pa_cons (pv 2) pa_nil))))))), ?_⟩
    refine ⟨.ref a, rfl, a, _, rfl, .inr (SqT.of hc), fun L nL => ?_⟩
    have s1 : Same H (upd H L (.lst (c.map V.int))) := same_new nL
    refine ⟨.ref b, rfl, 2, rfl, b, _, rfl, SqT.of (s1 _ _ hm), fun z => absurd z (show ¬ (HT.sIx 4 0 none = 0 ∧ HT.sIx 4 4 (some 2) = 4) by decide), fun _ p np => ?_⟩
    have hpH : H p = none := same_free s1 np
    have hpL : p ≠ L := fun e => by rw [e, upd_same] at np; cases np
    rw [show cutV [vn m.a, vn m.b, vn m.c, vn m.d] none (some 2) = [vn m.a, vn m.b] from rfl]
    have s2 : Same H (upd (upd H L (.lst (c.map V.int))) p (.tup [vn m.a, vn m.b])) := same_put s1 hpH
    refine ⟨p, rfl, ⟨_, SqT.of upd_same⟩, for_it (walk_tup (xs := [vn m.a, vn m.b])) (fun i σ H1 => ∃ x3, σ = [some (.ref a), some (.ref b), some (.ref L), x3] ∧ Same H H1 ∧ H1 p = some (.tup [vn m.a, vn m.b]) ∧ H1 L = some (.lst (([c, bmp c m.a (-1), cut2 c m].getD i []).map V.int)))
      ⟨none, rfl, s2, upd_same, by rw [upd_ne hpL.symm, upd_same]; rfl⟩ (fun i σ H1 _ hp => ?_) (fun i x σ H1 H2 hi hp hy => ?_) (fun σ H1 hp => ?_)⟩
    · obtain ⟨_, _, _, e, _⟩ := hp
      exact SqT.of e
    · obtain ⟨x3, rfl, s3, e3, eL⟩ := hp
      obtain ⟨rfl, hx⟩ := hy
      match i, hi, hx, eL with
      | 0, _, hx, eL =>
        cases hx
        have hA : m.a < c.length := by rw [hl]; exact ho.a
        refine ⟨.ref L, rfl, vn m.a, rfl, L, _, _, _, rfl, rfl, SqL.of eL, list_at hA, _, 1, rfl, rfl, ?_⟩
        refine ⟨.ref L, rfl, vn m.a, rfl, L, _, _, m.a, rfl, rfl, eL, by rw [List.length_map]; exact ixN_nat hA, ?_⟩
        refine ⟨_, rfl, same_put s3 nL, by rw [upd_ne hpL]; exact e3, ?_⟩
        rw [upd_same]
        exact congrArg (fun z => some (HO.lst z)) (set_bump (l := c) (i := m.a) (k := -1))
      | 1, _, hx, eL =>
        cases hx
        have hB : m.b < (bmp c m.a (-1)).length := by rw [bmp_len, hl]; exact ho.b
        refine ⟨.ref L, rfl, vn m.b, rfl, L, _, _, _, rfl, rfl, SqL.of eL, list_at hB, _, 1, rfl, rfl, ?_⟩
        refine ⟨.ref L, rfl, vn m.b, rfl, L, _, _, m.b, rfl, rfl, eL, by rw [List.length_map]; exact ixN_nat hB, ?_⟩
        refine ⟨_, rfl, same_put s3 nL, by rw [upd_ne hpL]; exact e3, ?_⟩
        rw [upd_same]
        exact congrArg (fun z => some (HO.lst z)) (set_bump (l := bmp c m.a (-1)) (i := m.b) (k := -1))
    · obtain ⟨x3, rfl, s3, e3, eL⟩ := hp
      refine ⟨.ref b, rfl, 2, rfl, b, _, rfl, SqT.of (s3 _ _ hm), fun z => absurd z (show ¬ (HT.sIx 4 0 (some 2) = 0 ∧ HT.sIx 4 4 none = 4) by decide), fun _ p2 np2 => ?_⟩
      have hpH2 : H p2 = none := same_free s3 np2
      have hpL2 : p2 ≠ L := fun e => by rw [e, eL] at np2; cases np2
      rw [show cutV [vn m.a, vn m.b, vn m.c, vn m.d] (some 2) none = [vn m.c, vn m.d] from rfl]
      have s4 : Same H (upd H1 p2 (.tup [vn m.c, vn m.d])) := same_put s3 hpH2
      refine ⟨p2, rfl, ⟨_, SqT.of upd_same⟩, for_it (walk_tup (xs := [vn m.c, vn m.d])) (fun i σ H1 => ∃ x3, σ = [some (.ref a), some (.ref b), some (.ref L), x3] ∧ Same H H1 ∧ H1 p2 = some (.tup [vn m.c, vn m.d]) ∧ H1 L = some (.lst (([cut2 c m, bmp (cut2 c m) m.c 1, behind c m].getD i []).map V.int)))
        ⟨x3, rfl, s4, upd_same, by rw [upd_ne hpL2.symm]; exact eL⟩ (fun i σ H1 _ hp => ?_) (fun i x σ H1 H2 hi hp hy => ?_) (fun σ H1 hp => ?_)⟩
      · obtain ⟨_, _, _, e, _⟩ := hp
        exact SqT.of e
      · obtain ⟨x3, rfl, s3, e3, eL⟩ := hp
        obtain ⟨rfl, hx⟩ := hy
        match i, hi, hx, eL with
        | 0, _, hx, eL =>
          cases hx
          have hA : m.c < (cut2 c m).length := by rw [cut2_len, hl]; exact ho.c
          refine ⟨.ref L, rfl, vn m.c, rfl, L, _, _, _, rfl, rfl, SqL.of eL, list_at hA, _, 1, rfl, rfl, ?_⟩
          refine ⟨.ref L, rfl, vn m.c, rfl, L, _, _, m.c, rfl, rfl, eL, by rw [List.length_map]; exact ixN_nat hA, ?_⟩
          refine ⟨_, rfl, same_put s3 nL, by rw [upd_ne hpL2]; exact e3, ?_⟩
          rw [upd_same]
          exact congrArg (fun z => some (HO.lst z)) (set_bump (l := cut2 c m) (i := m.c) (k := 1))
        | 1, _, hx, eL =>
          cases hx
          have hB : m.d < (bmp (cut2 c m) m.c 1).length := by rw [bmp_len, cut2_len, hl]; exact ho.d
          refine ⟨.ref L, rfl, vn m.d, rfl, L, _, _, _, rfl, rfl, SqL.of eL, list_at hB, _, 1, rfl, rfl, ?_⟩
          refine ⟨.ref L, rfl, vn m.d, rfl, L, _, _, m.d, rfl, rfl, eL, by rw [List.length_map]; exact ixN_nat hB, ?_⟩
          refine ⟨_, rfl, same_put s3 nL, by rw [upd_ne hpL2]; exact e3, ?_⟩
          rw [upd_same]
          exact congrArg (fun z => some (HO.lst z)) (set_bump (l := bmp (cut2 c m) m.c 1) (i := m.d) (k := 1))
      · obtain ⟨x3, rfl, s3, e3, eL⟩ := hp
        exact ⟨.ref L, rfl, L, _, rfl, SqL.of eL, fun p np => q _ p (same_put s3 (same_free s3 np)) (same_free s3 np) upd_same⟩
/-! ### is_next, met -/
def spIsNext : Sp := fun vs H Q _ => ∃ (a b : Addr) (r : Rl) (c : List Int) (n : Nat) (m : Mt), vs = [.ref a, .ref b, vn n] ∧ IsRule H a r ∧ r.Ok ∧ TI H b c ∧ c.length = r.rooms ∧ r.meets[n]? = some m ∧ Q (.bl (canB c m)) H
theorem ok16 (T : Tx K mg ad fd) : FnOk P w K mg base CX0 2 (ad 16) (fd 16) P16 spIsNext := by
  have nd := sc16.nd
  have G7 := ok7 (P := P) (w := w) (base := base) T
  have G13 := ok13 (P := P) (w := w) (base := base) T
  refine T.f_is_next.ok sc16 (fun vs H Q E h => ?_) (fun cdv A outer s H vs Q E hr h => ?_)
  · obtain ⟨a, b, r, c, n, m, rfl, _⟩ := h
    rfl
  · obtain ⟨a, b, r, c, n, m, rfl, ⟨sa, ma, ya, ms, hR⟩, ho, hc, hl, hn, q⟩ := h
    refine ⟨_, PSs.nox (pss_one (ps_ret (pe_and (pe_call G7 (hr.mono (by decide)) (by rfl) T.g_is_whole T.f_is_whole.kp T.b_is_whole .nil pass0 (pa_cons (pv 2) pa_nil)) (pe_and (pe_chain op_le op_lt pe_int (pv 2) (pe_callB (KW.lenS K) (by rfl) T.b_len (by decide +kernel) (pa_cons (pe_ix (KW.ixT K) (pv 0) pe_int (fun _ _ => rfl)) pa_nil))) (pe_one (pe_call G13 (hr.mono (by decide)) (by rfl) T.g_may_be T.f_may_be.kp T.b_may_be .nil pass0 (pa_cons (pv 1) (pa_cons (pe_ix (KW.ixT K) (pe_ix (KW.ixT K) (pv 0) pe_int (fun _ _ => rfl)) (pv 2) (fun _ _ => rfl)) pa_nil)))))))), ?_⟩
    obtain ⟨p, hp, hM⟩ := hR.meet hn
    have hlt : n < ms.length := (List.getElem?_eq_some_iff.mp hp).1
    refine ⟨vn n, rfl, n, rfl, true, rfl, iteT ?_⟩
    refine ⟨vn n, rfl, 0, n, rfl, rfl, _, rfl, ?_⟩
    rw [decide_eq_true (show (0 : Int) ≤ (n : Int) by omega)]
    refine iteT ⟨.ref a, rfl, a, _, 2, _, rfl, rfl, SqT.of hR.top, at_nat (n := 2) rfl, ma, _, rfl, .inr (SqT.of hR.meets), _, _, rfl, rfl, _, rfl, ?_⟩
    rw [decide_eq_true (show (n : Int) < ((ms.map V.ref).length : Nat) by rw [List.length_map]; omega)]
    exact iteT ⟨.ref b, rfl, .ref a, rfl, a, _, 2, _, rfl, rfl, SqT.of hR.top, at_nat (n := 2) rfl, vn n, rfl, ma, _, _, _, rfl, rfl, SqT.of hR.meets, at_nat (map_at hp), b, p, c, m, r.rooms, rfl, hc, hM, ho.meets m (List.mem_of_getElem? hn), hl, q⟩
def spMet : Sp := fun vs H Q _ => ∃ (a b : Addr) (r : Rl) (c : List Int) (n : Nat) (m : Mt), vs = [.ref a, .ref b, vn n] ∧ IsRule H a r ∧ r.Ok ∧ TI H b c ∧ c.length = r.rooms ∧ r.meets[n]? = some m ∧ canB c m = true ∧
  ∀ H' p, Same H H' → H p = none → TI H' p (behind c m) → Q (.ref p) H'
theorem ok17 (T : Tx K mg ad fd) : FnOk P w K mg base CX0 3 (ad 17) (fd 17) P17 spMet := by
  have nd := sc17.nd
  have G15 := ok15 (P := P) (w := w) (base := base) T
  have G16 := ok16 (P := P) (w := w) (base := base) T
  refine T.f_met.ok sc17 (fun vs H Q E h => ?_) (fun cdv A outer s H vs Q E hr h => ?_)
  · obtain ⟨a, b, r, c, n, m, rfl, _⟩ := h
    rfl
  · obtain ⟨a, b, r, c, n, m, rfl, ⟨sa, ma, ya, ms, hR⟩, ho, hc, hl, hn, hcb, q⟩ := h
    refine ⟨_, PSs.nox (pss_cons (ps_if (pt_not (pt_val (pe_call G16 (hr.mono (by decide)) (by rfl) T.g_is_next T.f_is_next.kp T.b_is_next .nil pass0 (pa_cons (pv 0) (pa_cons (pv 1) (pa_cons (pv 2) pa_nil))))))
    (pss_one ps_never)
    pss_nil)
  (pss_one (ps_ret (pe_call G15 (hr.mono (by decide)) (by rfl) T.g_crowd_behind T.f_crowd_behind.kp T.b_crowd_behind .nil pass0 (pa_cons (pv 1) (pa_cons (pe_ix (KW.ixT K) (pe_ix (KW.ixT K) (pv 0) pe_int (fun _ _ => rfl)) (pv 2) (fun _ _ => rfl)) pa_nil)))))), ?_⟩
    obtain ⟨p, hp, hM⟩ := hR.meet hn
    refine ⟨.ref a, rfl, .ref b, rfl, vn n, rfl, a, b, r, c, n, m, rfl, ⟨sa, ma, ya, ms, hR⟩, ho, hc, hl, hn, _, rfl, ?_⟩
    rw [hcb]
    exact iteF ⟨.ref b, rfl, .ref a, rfl, a, _, 2, _, rfl, rfl, SqT.of hR.top, at_nat (n := 2) rfl, vn n, rfl, ma, _, _, _, rfl, rfl, SqT.of hR.meets, at_nat (map_at hp), b, p, c, m, r.rooms, rfl, hc, hM, ho.meets m (List.mem_of_getElem? hn), hl, q⟩
end
end KH

namespace KH
open PySem PySem.Spec PyProof.Rows L2 KM
section
variable {P : Program} {w : World} {K : PySem.W.Frag} {mg : Str → Option Value} {base : Heap} {ad : Nat → Addr} {fd : Nat → FuncData}
/-! ### said -/
def spSaid : Sp := fun vs H Q _ => ∃ (a b : Addr) (r : Rl) (c : List Int), vs = [.ref a, .ref b] ∧ IsRule H a r ∧ r.Ok ∧ TI H b c ∧ c.length = r.rooms ∧ ∀ H', Same H H' → Q (.str (Str.ofString (said r c).tx)) H'
theorem ok18 (T : Tx K mg ad fd) : FnOk P w K mg base CX0 1 (ad 18) (fd 18) P18 spSaid := by
  have nd := sc18.nd
  refine T.f_said.ok sc18 (fun vs H Q E h => ?_) (fun cdv A outer s H vs Q E hr h => ?_)
  · obtain ⟨a, b, r, c, rfl, _⟩ := h
    rfl
  · obtain ⟨a, b, r, c, rfl, ⟨sa, ma, ya, ms, hR⟩, ho, hc, hl, q⟩ := h
    refine ⟨_, PSs.nox (pss_cons (ps_setLc (i := 2) (own := [("room", 3), ("many", 4)]) (g := (gTup K 2 (gCons (gName 3) (gCons (gName 4) gNil)))) (by rfl) nd rfl rfl (sw_true rfl rfl rfl (by decide +kernel)) (pi_enumT (by rfl) T.b_enumerate (pa_cons (pv 1) pa_nil)) (blkOk_by (N := N18) (sc := defScope (topS 18)) (by decide +kernel)) (fun _ _ _ _ _ => pg_tup rfl (pgs_cons (pg_name (i := 3) nd rfl (Or.inl rfl)) (pgs_cons (pg_name (i := 4) nd rfl (Or.inl rfl)) pgs_nil))) (fun _ _ _ _ _ => pts_one (pt_cmpR op_gt (pv 4) pe_int (nomark _))) (fun _ _ _ _ _ => (pe_ix (KW.ixT K) (pe_ix (KW.ixT K) (pv 0) pe_int (fun _ _ => rfl)) (pv 3) (fun _ _ => rfl))))
  (pss_cons (ps_if (pt_cmpR (KW.notInS K) pe_bl (pv 2) (by with_unfolding_all rfl))
    (pss_one (ps_ret pe_str))
    pss_nil)
  (pss_one (ps_ret (pe_ifExp (pt_cmpR (KW.inS K) pe_bl (pv 2) (by with_unfolding_all rfl)) pe_str pe_str))))), ?_⟩
    have h5 := ho.rooms5
    have hs := ho.says
    refine ⟨.ref b, rfl, b, _, rfl, SqT.of hc, fun D nD => lc_filt (walk_enumT (xs := c.map V.int)) (c.zip r.says) (by simp [hl, hs]) (by rw [List.length_map]; omega) (fun p => decide (0 < p.1)) (fun p => .bl p.2) nD (fun H1 s1 => SqT.of (s1 _ _ hc)) (fun i m x H1 H2 KY KN hi s1 hy ky kn => ?_) (fun H1 s1 eD => ?_)⟩
    · obtain ⟨t, u, v, rfl, nt, rfl, hu, hv⟩ := hy
      cases hu
      obtain ⟨h1, h2⟩ := List.getElem?_zip_eq_some.mp hi
      obtain ⟨k, hk, rfl⟩ := map_at' hv
      rw [h1] at hk
      cases hk
      have s2 := same_new (o := .tup [.int (i : Nat), .int m.1]) nt
      refine ⟨t, _, rfl, SqT.of upd_same, rfl, _, _, rfl, _, _, rfl, rfl, rfl, ?_⟩
      refine ⟨.int m.1, rfl, m.1, 0, rfl, rfl, _, rfl, ?_⟩
      cases hcb : decide (0 < m.1) with
      | true => exact iteT ⟨.ref a, rfl, a, _, 3, _, rfl, rfl, SqT.of (s2 _ _ (s1 _ _ hR.top)), at_nat (n := 3) rfl, .int (i : Nat), rfl, ya, _, _, _, rfl, rfl, SqT.of (s2 _ _ (s1 _ _ hR.says)), at_nat (map_at h2), ky _ hcb s2⟩
      | false => exact iteF (kn _ hcb s2)
    · have eD2 : H1 D = some (.lst ((wordsL r c).map V.bl)) := by
        unfold wordsL
        rw [List.map_map]
        exact eD
      refine ⟨.ref D, rfl, D, _, rfl, .inl (SqL.of eD2), rfl, flat_bl _, _, rfl, ?_⟩
      rw [show (if true = true then !inV (V.bl false) ((wordsL r c).map V.bl) else inV (V.bl false) ((wordsL r c).map V.bl)) = !inV (V.bl false) ((wordsL r c).map V.bl) from rfl, inV_bl]
      unfold KM.said at q
      by_cases hf : false ∈ wordsL r c
      · rw [decide_eq_true hf]
        rw [if_pos hf] at q
        refine iteF ⟨.ref D, rfl, D, _, rfl, .inl (SqL.of eD2), rfl, flat_bl _, _, rfl, ?_⟩
        rw [show (if false = true then !inV (V.bl true) ((wordsL r c).map V.bl) else inV (V.bl true) ((wordsL r c).map V.bl)) = inV (V.bl true) ((wordsL r c).map V.bl) from rfl, inV_bl]
        by_cases ht : true ∈ wordsL r c
        · rw [decide_eq_true ht]
          rw [if_pos ht] at q
          exact iteT (q H1 s1)
        · rw [decide_eq_false ht]
          rw [if_neg ht] at q
          exact iteF (q H1 s1)
      · rw [decide_eq_false hf]
        rw [if_neg hf] at q
        exact iteT (q H1 s1)
/-! ### hands_of -/
def spHandsOf : Sp := fun vs H Q _ => ∃ (a b : Addr) (l : List Nat) (cs : List Int), vs = [.ref a, .ref b] ∧ H a = some (.tup (l.map vn)) ∧ l.length ≤ 10 ∧ TI H b cs ∧ (∀ x ∈ l, x < cs.length) ∧ ∀ H', Same H H' → Q (.int (handsL l cs)) H'
theorem ok24 (T : Tx K mg ad fd) : FnOk P w K mg base CX0 1 (ad 24) (fd 24) P24 spHandsOf := by
  have nd := sc24.nd
  refine T.f_hands_of.ok sc24 (fun vs H Q E h => ?_) (fun cdv A outer s H vs Q E hr h => ?_)
  · obtain ⟨a, b, l, c, rfl, _⟩ := h
    rfl
  · obtain ⟨a, b, l, c, rfl, ha, hl, hc, hx, q⟩ := h
    refine ⟨_, PSs.nox (pss_one (ps_ret (pe_callB (KW.sumL K) (by rfl) T.b_sum (by decide +kernel) (pa_cons (pe_lc (own := [("sort", 2)]) (g := (gName 2)) (tt := tYes) (by rfl) nd (pi_tup (pv 0)) (blkOk_by (N := N24) (sc := defScope (topS 24)) (by decide +kernel)) (fun _ _ _ _ _ => pg_name (i := 2) nd rfl (Or.inl rfl)) (fun _ _ _ _ _ => pts_nil) (fun _ _ _ _ _ => (pe_ix (KW.ixT K) (pv 1) (pv 2) (fun _ _ => rfl)))) pa_nil)))), ?_⟩
    refine ⟨.ref a, rfl, a, rfl, ⟨_, SqT.of ha⟩, fun D nD => lc_pure (walk_tup (xs := l.map vn)) l (by simp) (by rw [List.length_map]; omega) (fun i => .int (c.getD i 0)) nD (fun H1 s1 => SqT.of (s1 _ _ ha)) (fun i x y H1 H2 KY hi s1 hy ky => ?_) (fun H1 s1 eD => ?_)⟩
    · obtain ⟨rfl, hy⟩ := hy
      obtain ⟨x', hx', rfl⟩ := map_at' hy
      rw [hi] at hx'
      cases hx'
      exact ⟨rfl, .ref b, rfl, vn x, rfl, b, _, _, _, rfl, rfl, SqT.of (s1 _ _ hc), list_at (hx x (List.mem_of_getElem? hi)), ky _ (Same.refl _)⟩
    · have ey : (l.map fun i => V.int (c.getD i 0)) = (l.map fun i => c.getD i 0).map V.int := by rw [List.map_map]; rfl
      rw [ey] at eD
      exact ⟨D, _, rfl, SqL.of eD, q H1 s1⟩
/-! ### questions -/
def QAt (H : Hp) : Addr → Qu → Prop
  | a, .least s n => ∃ t, H a = some (.tup [.str "least", .ref t, vn n]) ∧ H t = some (.tup (s.map vn))
  | a, .more s u => ∃ t v, H a = some (.tup [.str "more", .ref t, .ref v]) ∧ H t = some (.tup (s.map vn)) ∧ H v = some (.tup (u.map vn))
  | a, .rest s m r => ∃ t, H a = some (.tup [.str "rest", .ref t, vn m, vn r]) ∧ H t = some (.tup (s.map vn))
  | a, .not q => ∃ b, H a = some (.tup [.str "not", .ref b]) ∧ QAt H b q
theorem QAt.te {H H' : Hp} (t : Ts H H') : ∀ {q : Qu} {a : Addr}, QAt H a q → QAt H' a q
  | .least _ _, _, ⟨x, h1, h2⟩ => ⟨x, t.tup h1, t.tup h2⟩
  | .more _ _, _, ⟨x, y, h1, h2, h3⟩ => ⟨x, y, t.tup h1, t.tup h2, t.tup h3⟩
  | .rest _ _ _, _, ⟨x, h1, h2⟩ => ⟨x, t.tup h1, t.tup h2⟩
  | .not _, _, ⟨b, h1, h2⟩ => ⟨b, t.tup h1, QAt.te t h2⟩
theorem strF {a b : Str} {A B : Prop} (h : (a == b) = false) (q : B) : if decide (V.str a = V.str b) = true then A else B := by
  rw [decide_eq_false (fun z => by
    have := V.str.inj z
    rw [this] at h
    simp at h)]
  exact iteF q
theorem strT {a : Str} {A B : Prop} (q : A) : if decide (V.str a = V.str a) = true then A else B := by
  rw [decide_eq_true rfl]
  exact iteT q
def spHolds (d : Nat) : Sp := fun vs H Q _ => ∃ (a b : Addr) (q : Qu) (cs : List Int), vs = [.ref a, .ref b] ∧ QAt H a q ∧ q.Ok cs.length ∧ TI H b cs ∧ q.dep < d ∧ ∀ H', Same H H' → Q (.bl (holdsQ q cs)) H'
theorem ok25 (T : Tx K mg ad fd) : ∀ d, FnOk P w K mg base CX0 (d + 2) (ad 25) (fd 25) P25 (spHolds d)
  | 0 => by
    refine (T.f_holds.ok (k := 1) sc25 (fun vs H Q E h => ?_) (fun cdv A outer s H vs Q E hr h => ?_))
    · obtain ⟨_, _, _, _, _, _, _, _, h, _⟩ := h
      exact absurd h (Nat.not_lt_zero _)
    · obtain ⟨_, _, _, _, _, _, _, _, h, _⟩ := h
      exact absurd h (Nat.not_lt_zero _)
  | d + 1 => by
    have nd := sc25.nd
    have G25 := ok25 T d
    have G24 := ok24 (P := P) (w := w) (base := base) T
    refine (T.f_holds.ok (k := d + 2) sc25 (fun vs H Q E h => ?_) (fun cdv A outer s H vs Q E hr h => ?_))
    · obtain ⟨a, b, qq, cs, rfl, _⟩ := h
      rfl
    · obtain ⟨a, b, qq, cs, rfl, hq, ho, hc, hd, q⟩ := h
      refine ⟨_, PSs.nox (pss_cons (ps_set (i := 2) nd rfl (Or.inl rfl) (pe_ix (KW.ixT K) (pv 0) pe_int (fun _ _ => rfl)))
  (pss_cons (ps_if (pt_cmpR op_eq (pv 2) pe_str (nomark _))
    (pss_one (ps_ret (pe_not (pe_call G25 (hr.mono (by omega)) (by rfl) T.g_holds T.f_holds.kp T.b_holds .nil pass0 (pa_cons (pe_ix (KW.ixT K) (pv 0) pe_int (fun _ _ => rfl)) (pa_cons (pv 1) pa_nil))))))
    pss_nil)
  (pss_cons (ps_if (pt_cmpR op_eq (pv 2) pe_str (nomark _))
    (pss_one (ps_ret (pe_and (pe_call G25 (hr.mono (by omega)) (by rfl) T.g_holds T.f_holds.kp T.b_holds .nil pass0 (pa_cons (pe_ix (KW.ixT K) (pv 0) pe_int (fun _ _ => rfl)) (pa_cons (pv 1) pa_nil))) (pe_one (pe_call G25 (hr.mono (by omega)) (by rfl) T.g_holds T.f_holds.kp T.b_holds .nil pass0 (pa_cons (pe_ix (KW.ixT K) (pv 0) pe_int (fun _ _ => rfl)) (pa_cons (pv 1) pa_nil)))))))
    pss_nil)
  (pss_cons (ps_if (pt_cmpR op_eq (pv 2) pe_str (nomark _))
    (pss_one (ps_ret (pe_or (pe_call G25 (hr.mono (by omega)) (by rfl) T.g_holds T.f_holds.kp T.b_holds .nil pass0 (pa_cons (pe_ix (KW.ixT K) (pv 0) pe_int (fun _ _ => rfl)) (pa_cons (pv 1) pa_nil))) (pe_one (pe_call G25 (hr.mono (by omega)) (by rfl) T.g_holds T.f_holds.kp T.b_holds .nil pass0 (pa_cons (pe_ix (KW.ixT K) (pv 0) pe_int (fun _ _ => rfl)) (pa_cons (pv 1) pa_nil)))))))
    pss_nil)
  (pss_cons (ps_if (pt_cmpR op_eq (pv 2) pe_str (nomark _))
    (pss_one (ps_ret (pe_cmpR op_ge (pe_call G24 (hr.mono (by omega)) (by rfl) T.g_hands_of T.f_hands_of.kp T.b_hands_of .nil pass0 (pa_cons (pe_ix (KW.ixT K) (pv 0) pe_int (fun _ _ => rfl)) (pa_cons (pv 1) pa_nil))) (pe_ix (KW.ixT K) (pv 0) pe_int (fun _ _ => rfl)) (nomark _))))
    pss_nil)
  (pss_cons (ps_if (pt_cmpR op_eq (pv 2) pe_str (nomark _))
    (pss_one (ps_ret (pe_cmpR op_gt (pe_call G24 (hr.mono (by omega)) (by rfl) T.g_hands_of T.f_hands_of.kp T.b_hands_of .nil pass0 (pa_cons (pe_ix (KW.ixT K) (pv 0) pe_int (fun _ _ => rfl)) (pa_cons (pv 1) pa_nil))) (pe_call G24 (hr.mono (by omega)) (by rfl) T.g_hands_of T.f_hands_of.kp T.b_hands_of .nil pass0 (pa_cons (pe_ix (KW.ixT K) (pv 0) pe_int (fun _ _ => rfl)) (pa_cons (pv 1) pa_nil))) (nomark _))))
    pss_nil)
  (pss_one (ps_ret (pe_cmpR op_eq (pe_op op_mod (pe_call G24 (hr.mono (by omega)) (by rfl) T.g_hands_of T.f_hands_of.kp T.b_hands_of .nil pass0 (pa_cons (pe_ix (KW.ixT K) (pv 0) pe_int (fun _ _ => rfl)) (pa_cons (pv 1) pa_nil))) (pe_ix (KW.ixT K) (pv 0) pe_int (fun _ _ => rfl))) (pe_ix (KW.ixT K) (pv 0) pe_int (fun _ _ => rfl)) (nomark _)))))))))), ?_⟩
      cases qq with
      | least l n =>
        obtain ⟨t, h1, h2⟩ := hq
        obtain ⟨o1, o2, o3, o4⟩ := ho
        refine ⟨.ref a, rfl, a, _, 0, _, rfl, rfl, SqT.of h1, at_nat (n := 0) rfl, ?_⟩
        refine ⟨_, rfl, rfl, _, rfl, strF (by decide +kernel) ⟨_, rfl, rfl, _, rfl, strF (by decide +kernel) ⟨_, rfl, rfl, _, rfl, strF (by decide +kernel) ⟨_, rfl, rfl, _, rfl, strT ?_⟩⟩⟩⟩
        refine ⟨.ref a, rfl, a, _, 1, _, rfl, rfl, SqT.of h1, at_nat (n := 1) rfl, .ref b, rfl, t, b, l, cs, rfl, h2, o2, hc, o1, fun H1 s1 => ?_⟩
        exact ⟨.ref a, rfl, a, _, 2, _, rfl, rfl, SqT.of (s1 _ _ h1), at_nat (n := 2) rfl, _, _, rfl, rfl, q H1 s1⟩
      | more l u =>
        obtain ⟨t, v, h1, h2, h3⟩ := hq
        obtain ⟨o1, o2, o3, o4⟩ := ho
        refine ⟨.ref a, rfl, a, _, 0, _, rfl, rfl, SqT.of h1, at_nat (n := 0) rfl, ?_⟩
        refine ⟨_, rfl, rfl, _, rfl, strF (by decide +kernel) ⟨_, rfl, rfl, _, rfl, strF (by decide +kernel) ⟨_, rfl, rfl, _, rfl, strF (by decide +kernel) ⟨_, rfl, rfl, _, rfl, strF (by decide +kernel) ⟨_, rfl, rfl, _, rfl, strT ?_⟩⟩⟩⟩⟩
        refine ⟨.ref a, rfl, a, _, 1, _, rfl, rfl, SqT.of h1, at_nat (n := 1) rfl, .ref b, rfl, t, b, l, cs, rfl, h2, o3, hc, o1, fun H1 s1 => ?_⟩
        refine ⟨.ref a, rfl, a, _, 2, _, rfl, rfl, SqT.of (s1 _ _ h1), at_nat (n := 2) rfl, .ref b, rfl, v, b, u, cs, rfl, s1 _ _ h3, o4, s1 _ _ hc, o2, fun H2 s2 => ?_⟩
        exact ⟨_, _, rfl, rfl, q H2 (s1.trans s2)⟩
      | rest l m r =>
        obtain ⟨t, h1, h2⟩ := hq
        obtain ⟨o1, o2, o3, o4, o5⟩ := ho
        refine ⟨.ref a, rfl, a, _, 0, _, rfl, rfl, SqT.of h1, at_nat (n := 0) rfl, ?_⟩
        refine ⟨_, rfl, rfl, _, rfl, strF (by decide +kernel) ⟨_, rfl, rfl, _, rfl, strF (by decide +kernel) ⟨_, rfl, rfl, _, rfl, strF (by decide +kernel) ⟨_, rfl, rfl, _, rfl, strF (by decide +kernel) ⟨_, rfl, rfl, _, rfl, strF (by decide +kernel) ?_⟩⟩⟩⟩⟩
        refine ⟨.ref a, rfl, a, _, 1, _, rfl, rfl, SqT.of h1, at_nat (n := 1) rfl, .ref b, rfl, t, b, l, cs, rfl, h2, o2, hc, o1, fun H1 s1 => ?_⟩
        refine ⟨.ref a, rfl, a, _, 2, _, rfl, rfl, SqT.of (s1 _ _ h1), at_nat (n := 2) rfl, _, _, rfl, rfl, (by omega), ?_⟩
        refine ⟨.ref a, rfl, a, _, 3, _, rfl, rfl, SqT.of (s1 _ _ h1), at_nat (n := 3) rfl, rfl, ?_⟩
        have := q H1 s1
        unfold holdsQ at this
        have e : decide (V.int (handsL l cs % (m : Int)) = vn r) = decide (handsL l cs % (m : Int) = (r : Int)) := by
          by_cases h : handsL l cs % (m : Int) = (r : Int)
          · rw [decide_eq_true h, h]
            exact decide_eq_true rfl
          · rw [decide_eq_false h]
            exact decide_eq_false fun z => h (V.int.inj z)
        rw [← e] at this
        exact this
      | not qi =>
        obtain ⟨t, h1, h2⟩ := hq
        refine ⟨.ref a, rfl, a, _, 0, _, rfl, rfl, SqT.of h1, at_nat (n := 0) rfl, ?_⟩
        refine ⟨_, rfl, rfl, _, rfl, strT ?_⟩
        have hd' : qi.dep < d := Nat.lt_of_succ_lt_succ hd
        refine ⟨.ref a, rfl, a, _, 1, _, rfl, rfl, SqT.of h1, at_nat (n := 1) rfl, .ref b, rfl, t, b, qi, cs, rfl, h2, ho, hc, hd', fun H1 s1 => ⟨_, rfl, q H1 s1⟩⟩
/-! ### truth_word -/
def spTruth : Sp := fun vs H Q _ => ∃ (a b : Addr) (q : Qu) (cs : List Int), vs = [.ref a, .ref b] ∧ QAt H a q ∧ q.Ok cs.length ∧ TI H b cs ∧ q.dep < 2 ∧ ∀ H', Same H H' → Q (.str (Str.ofString (truthW (holdsQ q cs)).tx)) H'
theorem ok27 (T : Tx K mg ad fd) : FnOk P w K mg base CX0 5 (ad 27) (fd 27) P27 spTruth := by
  have nd := sc27.nd
  have G25 := ok25 (P := P) (w := w) (base := base) T 2
  refine T.f_truth_word.ok sc27 (fun vs H Q E h => ?_) (fun cdv A outer s H vs Q E hr h => ?_)
  · obtain ⟨a, b, qq, cs, rfl, _⟩ := h
    rfl
  · obtain ⟨a, b, qq, cs, rfl, hq, ho, hc, hd, q⟩ := h
    refine ⟨_, PSs.nox (pss_one (ps_ret (pe_ifExp (pt_val (pe_call G25 (hr.mono (by decide)) (by rfl) T.g_holds T.f_holds.kp T.b_holds .nil pass0 (pa_cons (pv 0) (pa_cons (pv 1) pa_nil)))) pe_str pe_str))), ?_⟩
    refine ⟨.ref a, rfl, .ref b, rfl, a, b, qq, cs, rfl, hq, ho, hc, hd, fun H1 s1 => ⟨_, rfl, ?_⟩⟩
    have := q H1 s1
    cases e : holdsQ qq cs with
    | true => rw [e] at this; exact iteT this
    | false => rw [e] at this; exact iteF this
end
end KH

namespace KH
open PySem PySem.Spec PyProof.Rows L2 KM
section
variable {P : Program} {w : World} {K : PySem.W.Frag} {mg : Str → Option Value} {base : Heap} {ad : Nat → Addr} {fd : Nat → FuncData}
/-! ### graph_of -/
def spGraph : Sp := fun vs H Q _ => ∃ (a b : Addr) (r : Rl) (c : Crowd) (N lim : Int), vs = [.ref a, .ref b, .int lim] ∧ IsRule H a r ∧ r.Ok ∧ TI H b c ∧ Cw r.rooms N c ∧ N ≤ 4 ∧ 130 ≤ lim ∧
  ∀ H' d ks, Same H H' → H d = none → GraphAt H' d r ks → GInv r c ks ks.length → Q (.ref d) H'
/-- the state of graph_of's outer loop -/
structure GSt (H0 : Hp) (a b : Addr) (lim : Int) (F L S : Addr) (r : Rl) (c : Crowd) (ps : List (List Int × V)) (Ln : List Crowd) (σ : L2.St) (H : Hp) : Prop where
  slots : ∃ x6 x7 x8, σ = [some (.ref a), some (.ref b), some (.int lim), some (.ref F), some (.ref L), some (.ref S), x6, x7, x8]
  same : Same H0 H
  eF : H F = some (.dT (asg ps))
  eL : CrowdsAt H L Ln
  eS : H S = some (.dT (asg (trueD Ln)))
  gb : GB H r (fun x => x = L) ps
  keys : ps.map (·.1) = Ln.take ps.length
  inv : GInv r c Ln ps.length
theorem ok20 (T : Tx K mg ad fd) : FnOk P w K mg base CX0 4 (ad 20) (fd 20) P20 spGraph := by
  have nd := sc20.nd
  have G14 := ok14 (P := P) (w := w) (base := base) T
  have G17 := ok17 (P := P) (w := w) (base := base) T
  refine T.f_graph_of.ok sc20 (fun vs H Q E h => ?_) (fun cdv A outer s H vs Q E hr h => ?_)
  · obtain ⟨a, b, r, c, N, lim, rfl, _⟩ := h
    rfl
  · obtain ⟨a, b, r, c, N, lim, rfl, hR, ho, hb, hc, hN, hlim, q⟩ := h
    refine ⟨_, PSs.nox (pss_cons (ps_set (i := 3) nd rfl (Or.inl rfl) pe_dnewT)
  (pss_cons (ps_set (i := 4) nd rfl (Or.inl rfl) (pe_lst (pa_cons (pv 1) pa_nil)))
  (pss_cons (ps_set (i := 5) nd rfl (Or.inl rfl) (pe_dispT (hu_of hr) (pv 1) pe_bl))
  (pss_cons (ps_while PassesOwn.never (pt_cmpR op_lt (pe_callB call_len_dT (by rfl) T.b_len (by decide +kernel) (pa_cons (pv 3) pa_nil)) (pe_callB (KW.lenS K) (by rfl) T.b_len (by decide +kernel) (pa_cons (pv 4) pa_nil)) (nomark _))
    (pss_cons (ps_set (i := 6) nd rfl (Or.inr rfl) (pe_ix (KW.ixL K) (pv 4) (pe_callB call_len_dT (by rfl) T.b_len (by decide +kernel) (pa_cons (pv 3) pa_nil)) (fun _ _ => rfl)))
  (pss_cons (ps_dput (hu_of hr) (pv 3) (pv 6) (pe_lc (own := [("number", 7)]) (g := (gName 7)) (tt := tYes) (by rfl) nd (pi_list (pe_call G14 (hr.mono (by decide)) (by rfl) T.g_can T.f_can.kp T.b_can .nil pass0 (pa_cons (pv 0) (pa_cons (pv 6) pa_nil)))) (blkOk_by (N := N20) (sc := defScope (topS 20)) (by decide +kernel)) (fun _ _ _ _ _ => pg_name (i := 7) nd rfl (Or.inl rfl)) (fun _ _ _ _ _ => pts_nil) (fun _ _ _ _ _ => (pe_tup (pa_cons (pv 7) (pa_cons (pe_call G17 (hr.mono (by decide)) (by rfl) T.g_met T.f_met.kp T.b_met .nil pass0 (pa_cons (pv 0) (pa_cons (pv 6) (pa_cons (pv 7) pa_nil)))) pa_nil))))) rfl)
  (pss_cons (ps_for PassesOwn.never rfl (pi_list (pe_dget (hu_of hr) (pv 3) (pv 6) (fun _ _ => rfl))) (pg_tup rfl (pgs_cons (pg_name (i := 7) nd rfl (Or.inl rfl)) (pgs_cons (pg_name (i := 8) nd rfl (Or.inl rfl)) pgs_nil)))
    (pss_one (ps_if (pt_cmp (pc_dnotin (hu_of hr) (pv 8) (pv 5)))
    (pss_cons (ps_dput (hu_of hr) (pv 5) (pv 8) pe_bl rfl)
  (pss_one (ps_expr (pe_bm PySem.F.plainAttrs_list PySem.F.slot_list_append PySem.F.type_list_append mt_append (pv 4) (pa_cons (pv 8) pa_nil)))))
    pss_nil)))
  (pss_one (ps_if (pt_cmpR op_gt (pe_callB (KW.lenS K) (by rfl) T.b_len (by decide +kernel) (pa_cons (pv 4) pa_nil)) (pv 2) (nomark _))
    (pss_one ps_never)
    pss_nil))))))
  (pss_one (ps_ret (pv 3))))))), ?_⟩
    intro F nF
    have s1 : Same H (upd H F (.dT [])) := same_new nF
    refine ⟨.ref b, rfl, by show 1 ≤ sizeLine; decide, fun L nL => ?_⟩
    have nL0 := same_free s1 nL
    have hLF : L ≠ F := fun e => by rw [e, upd_same] at nL; cases nL
    have s2 := same_put (o := .lst [.ref b]) s1 nL0
    intro S nS
    have nS0 := same_free s2 nS
    have hSL : S ≠ L := fun e => by rw [e, upd_same] at nS; cases nS
    have hSF : S ≠ F := fun e => by
      rw [e, upd_ne hLF.symm, upd_same] at nS
      cases nS
    have s3 := same_put (o := .dT []) s2 nS0
    refine ⟨.ref b, rfl, upd_same, ck c, b, rfl, ?_, ?_⟩
    · exact tiK (s3 _ _ hb)
    rw [upd_upd]
    have s4 := same_put (o := .dT [(ck c, .bl true)]) s2 nS0
    refine ⟨fun m σ H1 => ∃ ps Ln, m = 200 - ps.length ∧ GSt H a b lim F L S r c ps Ln σ H1, ⟨200, [], [c], rfl, ?_⟩, fun m σ H1 hW => ?_⟩
    · exact ⟨⟨none, none, none, rfl⟩, s4, by rw [upd_ne hSF.symm, upd_ne hLF.symm, upd_same]; rfl, ⟨[b], by rw [upd_ne hSL.symm, upd_same]; rfl, .cons (s4 _ _ hb) .nil⟩, upd_same, fun p hp => (nomatch hp), rfl, GInv.start r c⟩
    · obtain ⟨ps, Ln, rfl, ⟨⟨x6, x7, x8, rfl⟩, hs, eF, eL, eS, gb, keys, inv⟩⟩ := hW
      have few := inv.few ho hc hN
      have le := inv.le
      obtain ⟨bs, hbs, eL', pL⟩ := eL.len
      refine ⟨.ref F, rfl, F, _, rfl, eF, .ref L, rfl, L, _, rfl, .inl (SqL.of eL'), _, _, rfl, rfl, _, rfl, ?_⟩
      rw [len_asg, List.length_map, hbs]
      by_cases hlt : ps.length < Ln.length
      · rw [decide_eq_true (show (ps.length : Int) < (Ln.length : Int) by omega)]
        refine iteT ⟨fun σ' H' => ∃ ps' Ln', ps'.length = ps.length + 1 ∧ GSt H a b lim F L S r c ps' Ln' σ' H', fun σ' H' hN' => ?_, ?_⟩
        · obtain ⟨ps', Ln', e1, e2⟩ := hN'
          exact ⟨200 - ps'.length, by omega, ps', Ln', rfl, e2⟩
        -- here = line[len(found)]
        obtain ⟨x, hx⟩ : ∃ x, Ln[ps.length]? = some x := ⟨Ln[ps.length], List.getElem?_eq_getElem hlt⟩
        obtain ⟨hbk, hbk1, hbx⟩ := paired_at pL hx
        have hxm := List.mem_of_getElem? hx
        have hxr := inv.rc x hxm
        have hxc := reach_ok ho hc hxr
        refine ⟨.ref L, rfl, .ref F, rfl, F, _, rfl, eF, L, _, _, .ref hbk, rfl, rfl, SqL.of eL', by rw [len_asg]; exact at_nat (map_at hbk1), ?_⟩
        -- found[here] = [..]
        refine ⟨.ref a, rfl, .ref hbk, rfl, a, hbk, r, x, rfl, hR.te (tsS hs), ho, hbx, hxc.len, fun H2 p s5 np ep => ?_⟩
        refine ⟨p, rfl, ⟨_, SqL.of ep⟩, fun D nD => ?_⟩
        have nDp : D ≠ p := fun e => by rw [e, ep] at nD; cases nD
        have s5' : Same H1 H2 := s5
        refine lc_map (walk_list (xs := (canL r x).map vn)) (stepsL r x) (by rw [List.length_map, steps_len]) (by rw [List.length_map]; have := can_few ho x; omega) (fun s y H' => ∃ t, y = .ref t ∧ StepAt H' t s) nD (fun _ _ _ _ t h => by obtain ⟨u, h1, h2⟩ := h; exact ⟨u, h1, h2.te t⟩) (fun H3 s6 => SqL.of (s6 _ _ ep)) (fun i st y H3 H4 KY hi s6 hy ky => ?_) (fun H3 ys s6 eD pr => ?_)
        · obtain ⟨rfl, hy⟩ := hy
          obtain ⟨h1, m, h2, h3, h4⟩ := steps_at hi
          obtain ⟨n', hn', rfl⟩ := map_at' hy
          rw [h1] at hn'
          cases hn'
          have s7 : Same H1 H4 := s5'.trans s6
          refine ⟨rfl, vn st.1, rfl, .ref a, rfl, .ref hbk, rfl, vn st.1, rfl, a, hbk, r, x, st.1, m, rfl, hR.te (tsS (hs.trans s7)), ho, (tsS s7).tup hbx, hxc.len, h2, h3, fun H5 pb s8 npb epb => ?_⟩
          refine ⟨by show 2 ≤ sizeLine; decide, fun t nt => ky _ _ (s8.trans (same_new nt)) ⟨t, rfl, pb, upd_same, ?_⟩⟩
          rw [h4]
          exact same_new nt _ _ epb
        · obtain ⟨ts, rfl, pts⟩ := refs_of (S := fun t s => StepAt H3 t s) pr
          have s7 : Same H1 H3 := s5'.trans s6
          have hsx : Same H H3 := hs.trans s7
          -- the store
          have hxk : x ∉ ps.map (·.1) := by
            rw [keys]
            intro hm
            obtain ⟨j, hj⟩ := List.mem_iff_getElem?.mp hm
            rw [List.getElem?_take] at hj
            split at hj
            · rename_i hjl
              have := (List.getElem?_inj hlt inv.nd).mp (hx.trans hj.symm)
              omega
            · cases hj
          have eF3 := s7 _ _ eF
          have eF3' : H3 F = some (.dT (asg ps)) := eF3
          refine ⟨.ref F, rfl, .ref hbk, rfl, F, _, rfl, dput_c eF3' ((tsS s7).tup hbx) (small (by omega)), ?_⟩
          rw [putK_new' _ hxk]
          have hLl : ∀ u, H3 u = some (.lst (ts.map V.ref)) → u ≠ F := fun u e z => by rw [z, eF3'] at e; cases e
          have eL3 : CrowdsAt H3 L Ln := (show CrowdsAt H1 L Ln from ⟨bs, eL', pL⟩).same s7
          have hDL : D ≠ L := fun e => by
            have h6 := s5' _ _ eL'
            rw [e, h6] at nD
            cases nD
          have hDF : D ≠ F := fun e => by
            have h6 := s5' _ _ eF
            rw [e, h6] at nD
            cases nD
          have eS3 := s7 _ _ eS
          obtain ⟨H4, eH4⟩ : ∃ H4, H4 = upd H3 F (.dT (asg (ps ++ [(x, .ref D)]))) := ⟨_, rfl⟩
          rw [← eH4]
          have t4 : Ts H3 H4 := by rw [eH4]; exact Ts.put eF3' rfl
          have b4 : SameB F H3 H4 := by rw [eH4]; exact SameB.put
          have eF4 : H4 F = some (.dT (asg (ps ++ [(x, .ref D)]))) := by rw [eH4]; exact upd_same
          have same4 : Same H H4 := by rw [eH4]; exact same_put hsx nF
          have eL4 : CrowdsAt H4 L Ln := eL3.keep b4 t4 hLF
          have eS4 : H4 S = some (.dT (asg (trueD Ln))) := b4 _ _ hSF eS3
          have hD4 : H4 D = some (.lst (ts.map V.ref)) := b4 _ _ hDF eD
          have pts4 : Paired (StepAt H4) ts (stepsL r x) := paired_imp (fun _ _ h => h.te t4) pts
          have gb4 : GB H4 r (fun z => z = L) (ps ++ [(x, .ref D)]) := fun p hp => by
            rcases List.mem_append.mp hp with h | h
            · exact (gb.same s7).keep b4 t4 (fun l hl _ z => by obtain ⟨xs, e⟩ := hl; rw [z, eF3'] at e; cases e) p h
            · rw [List.mem_singleton.mp h]
              exact ⟨D, rfl, hDL, ts, hD4, pts4⟩
          have hget : valV (ps ++ [(x, V.ref D)]) x = some (.ref D) := by
            rw [← putK_new' (V.ref D) hxk, valV_put, if_pos rfl]
          -- the inner loop
          refine ⟨.ref F, rfl, .ref hbk, rfl, F, .ref D, rfl, ?_, D, rfl, ⟨_, SqL.of hD4⟩, ?_⟩
          · rw [← hget]
            exact dget_c eF4 (t4.tup ((tsS s7).tup hbx))
          obtain ⟨ps', eps'⟩ : ∃ ps', ps' = ps ++ [(x, V.ref D)] := ⟨_, rfl⟩
          rw [← eps'] at eF4 gb4
          have hlen' : ps'.length = ps.length + 1 := by rw [eps']; simp
          refine for_it (walk_list (xs := ts.map V.ref)) (fun i σ H5 => ∃ L2 x7 x8, σ = [some (.ref a), some (.ref b), some (.int lim), some (.ref F), some (.ref L), some (.ref S), some (.ref hbk), x7, x8] ∧ Same H H5 ∧ H5 F = some (.dT (asg ps')) ∧
              CrowdsAt H5 L L2 ∧ H5 S = some (.dT (asg (trueD L2))) ∧ GB H5 r (fun z => z = L) ps' ∧ H5 D = some (.lst (ts.map V.ref)) ∧ Paired (StepAt H5) ts (stepsL r x) ∧ GIn r c Ln x L2 i)
            ⟨Ln, x7, x8, rfl, same4, eF4, eL4, eS4, gb4, hD4, pts4, GIn.start inv⟩ (fun i σ H5 _ hp => ?_) (fun i y σ H5 H6 hi hp hy => ?_) (fun σ H5 hp => ?_)
          · obtain ⟨_, _, _, _, _, _, _, _, _, e, _⟩ := hp
            exact SqL.of e
          · obtain ⟨L2, x7, x8, rfl, sm, fF, fL, fS, fg, fD, fp, gi⟩ := hp
            obtain ⟨rfl, hy⟩ := hy
            obtain ⟨t, ht, rfl⟩ := map_at' hy
            obtain ⟨st, hst, bb, et, ebb⟩ := paired_at' fp ht
            refine ⟨t, _, rfl, SqT.of et, rfl, _, _, rfl, _, _, rfl, rfl, ?_⟩
            refine ⟨.ref bb, rfl, .ref S, rfl, S, _, rfl, dget_c fS ebb, _, rfl, ?_⟩
            rw [valV_some_iff, trueD_keys]
            by_cases hm : st.2 ∈ L2
            · rw [decide_eq_true hm]
              exact iteF ⟨L2, _, _, rfl, sm, fF, fL, fS, fg, fD, fp, gi.skip hst hm⟩
            · rw [decide_eq_false hm]
              obtain ⟨b2, hb2, fL', pL2⟩ := fL.len
              have few2 : L2.length ≤ 130 := crowds_few ho.rooms5 hN gi.nd fun z hz => reach_ok ho hc (gi.rc z hz)
              refine iteT ⟨.ref S, rfl, .ref bb, rfl, S, _, rfl, dput_c fS ebb (small (by rw [List.length_map]; omega)), ?_⟩
              rw [putK_new' _ (by rw [trueD_keys]; exact hm)]
              have t6 : Ts H6 (upd H6 S (.dT (asg (trueD L2 ++ [(st.2, .bl true)])))) := Ts.put fS rfl
              have b6 : SameB S H6 (upd H6 S (.dT (asg (trueD L2 ++ [(st.2, .bl true)])))) := SameB.put
              obtain ⟨H7, eH7⟩ : ∃ H7, H7 = upd H6 S (.dT (asg (trueD L2 ++ [(st.2, .bl true)]))) := ⟨_, rfl⟩
              rw [← eH7] at t6 b6 ⊢
              have gL : H7 L = some (.lst (b2.map V.ref)) := b6 _ _ hSL.symm fL'
              refine ⟨.ref L, rfl, .inl ⟨rfl, _, SqL.of gL⟩, .ref bb, rfl, L, _, _, rfl, rfl, gL, small (by rw [List.length_map]; omega), ?_⟩
              have t7 : Ts H7 (upd H7 L (.lst (b2.map V.ref ++ [V.ref bb]))) := Ts.put gL rfl
              have b7 : SameB L H7 (upd H7 L (.lst (b2.map V.ref ++ [V.ref bb]))) := SameB.put
              have eS7 : H7 S = some (.dT (asg (trueD (L2 ++ [st.2])))) := by
                rw [eH7, upd_same]
                unfold trueD
                rw [List.map_append]
                rfl
              have hLF' : ∀ l, (∃ xs, H6 l = some (.lst xs)) → ¬ l = L → l ≠ S := fun l hl _ z => by
                obtain ⟨xs, e⟩ := hl
                rw [z, fS] at e
                cases e
              refine ⟨L2 ++ [st.2], _, _, rfl, ?_, b7 _ _ hLF.symm (b6 _ _ hSF.symm fF), ⟨b2 ++ [bb], ?_, ?_⟩, b7 _ _ hSL eS7, (fg.keep b6 t6 hLF').keep b7 t7 fun l _ h => h, ?_, paired_imp (fun _ _ h => (h.te t6).te t7) fp, gi.add hxr hst hm⟩
              · rw [eH7]
                exact same_put (same_put sm nS0) nL0
              · rw [upd_same, List.map_append]
                rfl
              · exact paired_snoc (paired_imp (fun _ _ h => t7.tup (t6.tup h)) pL2) (t7.tup (t6.tup ebb))
              · exact b7 _ _ hDL (b6 _ _ (fun z => by rw [z, fS] at fD; cases fD) fD)
          · obtain ⟨L2, x7, x8, rfl, sm, fF, fL, fS, fg, fD, fp, gi⟩ := hp
            have elen : (ts.map V.ref).length = (stepsL r x).length := by rw [List.length_map, Paired.length fp]
            rw [elen] at gi
            have inv2 := gi.fin inv hx
            have few2 := inv2.few ho hc hN
            obtain ⟨b2, hb2, fL', pL2⟩ := fL.len
            refine ⟨.ref L, rfl, L, _, rfl, .inl (SqL.of fL'), .int lim, rfl, _, _, rfl, rfl, _, rfl, ?_⟩
            rw [decide_eq_false (show ¬ (lim < ((b2.map V.ref).length : Nat)) by rw [List.length_map]; omega)]
            refine iteF ⟨ps', L2, hlen', ⟨⟨_, _, _, rfl⟩, sm, fF, fL, fS, fg, ?_, ?_⟩⟩
            · obtain ⟨t, ht⟩ := gi.pre
              have h2 : L2[ps.length]? = some x := by rw [ht, List.getElem?_append_left hlt]; exact hx
              rw [hlen', List.take_add_one, h2, ht, List.take_append_of_le_length (Nat.le_of_lt hlt), ← keys, eps', List.map_append]
              rfl
            · rw [hlen']
              exact inv2
      · rw [decide_eq_false (show ¬ ((ps.length : Int) < (Ln.length : Int)) by omega)]
        refine iteF ?_
        have e1 : ps.length = Ln.length := by omega
        refine ⟨.ref F, rfl, q H1 F Ln hs nF ⟨ps, eF, ?_, inv.nd, gb.mono fun _ _ h => h.elim⟩ ?_⟩
        · rw [keys, e1, List.take_length]
        · rw [← e1]
          exact inv
end
end KH

namespace KH
open PySem PySem.Spec PyProof.Rows L2 KM
theorem mergeT_asg : ∀ (ps acc : List (List Int × V)), ((acc ++ ps).map (·.1)).Nodup → mergeT (asg acc) (asg ps) = asg (acc ++ ps)
  | [], acc, _ => by rw [List.append_nil]; rfl
  | p :: ps, acc, h => by
    have hp : p.1 ∉ acc.map (·.1) := by
      rw [List.map_append, List.nodup_append] at h
      intro hm
      exact h.2.2 p.1 hm p.1 (by simp) rfl
    show mergeT (putK (asg acc) (ck p.1) p.2) (asg ps) = _
    rw [putK_asg, putK_new' _ hp, mergeT_asg ps (acc ++ [(p.1, p.2)]) (by rw [List.append_assoc]; exact h), List.append_assoc]
    rfl
theorem merge_nd {ps : List (List Int × V)} (h : (ps.map (·.1)).Nodup) : mergeT [] (asg ps) = asg ps := mergeT_asg ps [] h
theorem same_unlock {H H1 : Hp} {d : Addr} {u : HO} {od : Obj} (e : H d = some u) (s : Same (upd H d (.frz od u)) H1) : Same H (upd H1 d u) := fun b o eb => by
  by_cases h : b = d
  · subst h
    rw [e] at eb
    rw [upd_same]
    exact eb
  · rw [upd_ne h]
    exact s b o (by rw [upd_ne h]; exact eb)
theorem lock_sameB {H : Hp} {d : Addr} {u : HO} {od : Obj} : SameB d H (upd H d (.frz od u)) := SameB.put
theorem lock_free {H : Hp} {d l : Addr} {u : HO} {od : Obj} (e : H d = some u) (n : (upd H d (.frz od u)) l = none) : H l = none := by
  by_cases h : l = d
  · subst h
    rw [upd_same] at n
    cases n
  · rw [upd_ne h] at n
    exact n
/-- a locked graph -/
def GraphLk (H : Hp) (d : Addr) (od : Obj) (r : Rl) (ps : List (List Int × V)) : Prop := H d = some (.frz od (.dT (asg ps))) ∧ GB H r noL ps
theorem graph_lock {H : Hp} {d : Addr} {od : Obj} {r : Rl} {ps : List (List Int × V)} (e : H d = some (.dT (asg ps))) (g : GB H r noL ps) : GraphLk (upd H d (.frz od (.dT (asg ps)))) d od r ps :=
  ⟨upd_same, g.keep SameB.put (Ts.put e rfl) fun l hl _ z => by obtain ⟨xs, q⟩ := hl; rw [z, e] at q; cases q⟩
theorem GraphLk.same {H H' : Hp} {d : Addr} {od : Obj} {r : Rl} {ps : List (List Int × V)} (s : Same H H') (h : GraphLk H d od r ps) : GraphLk H' d od r ps := ⟨s _ _ h.1, h.2.same s⟩
theorem key_ti {H : Hp} {ps : List (List Int × V)} {i : Nat} {k : List Key} {v : V} {q : Addr} (h : (asg ps)[i]? = some (k, v)) (e : H q = some (.tup (k.map kV))) : ∃ c, ps[i]? = some (c, v) ∧ TI H q c := by
  unfold asg at h
  rw [List.getElem?_map] at h
  cases hp : ps[i]? with
  | none => rw [hp] at h; cases h
  | some p =>
    rw [hp] at h
    have := Option.some.inj h
    injection this with h1 h2
    subst h1 h2
    rw [ck_kV] at e
    exact ⟨p.1, rfl, e⟩
theorem map_fst_at {α β : Type} {l : List (α × β)} {ks : List α} (h : l.map (·.1) = ks) {i : Nat} {p : α × β} (hp : l[i]? = some p) : ks[i]? = some p.1 := by
  rw [← h, List.getElem?_map, hp]
  rfl
theorem graph_step {H : Hp} {r : Rl} {L : Addr → Prop} {ps : List (List Int × V)} (g : GB H r L ps) {i : Nat} {c : Crowd} {v : V} (h : ps[i]? = some (c, v)) : ∃ l, v = .ref l ∧ StepsAt H l (stepsL r c) := by
  obtain ⟨l, h1, _, h3⟩ := g _ (List.mem_of_getElem? h)
  exact ⟨l, h1, h3⟩
/-- ranks: a dict of crowds and ints -/
abbrev intD (Ps : List (Crowd × Int)) : List (List Int × V) := Ps.map fun p => (p.1, .int p.2)
theorem intD_keys (Ps : List (Crowd × Int)) : (intD Ps).map (·.1) = Ps.map (·.1) := by rw [List.map_map]; rfl
theorem intD_val {Ps : List (Crowd × Int)} {c : Crowd} {v : Int} (hn : (Ps.map (·.1)).Nodup) (h : (c, v) ∈ Ps) : valV (intD Ps) c = some (.int v) := valV_mem (by rw [intD_keys]; exact hn) (List.mem_map.mpr ⟨(c, v), h, rfl⟩)
/-- what stands ahead of each crowd -/
def AhAt (H : Hp) (A : Addr) (ks : List Crowd) (ls : List Addr) (pr : Crowd → List Crowd) : Prop :=
  ls.length = ks.length ∧ ls.Nodup ∧ H A = some (.dT (asg (ks.zip (ls.map V.ref)))) ∧ ∀ (i : Nat) (c : Crowd) (l : Addr), ks[i]? = some c → ls[i]? = some l → CrowdsAt H l (pr c)
theorem AhAt.keep {H H' : Hp} {x A : Addr} {ks : List Crowd} {ls : List Addr} {pr : Crowd → List Crowd} (s : SameB x H H') (t : Ts H H') (hA : A ≠ x) (hl : x ∉ ls) (h : AhAt H A ks ls pr) : AhAt H' A ks ls pr :=
  ⟨h.1, h.2.1, s _ _ hA h.2.2.1, fun i c l h1 h2 => (h.2.2.2 i c l h1 h2).keep s t fun z => hl (z ▸ List.mem_of_getElem? h2)⟩
theorem AhAt.same {H H' : Hp} {A : Addr} {ks : List Crowd} {ls : List Addr} {pr : Crowd → List Crowd} (s : Same H H') (h : AhAt H A ks ls pr) : AhAt H' A ks ls pr :=
  ⟨h.1, h.2.1, s _ _ h.2.2.1, fun i c l h1 h2 => (h.2.2.2 i c l h1 h2).same s⟩
theorem zip_keys {ks : List Crowd} {vs : List V} (h : vs.length = ks.length) : (ks.zip vs).map (·.1) = ks := List.map_fst_zip (by omega)
theorem zip_val {ks : List Crowd} {ls : List Addr} (hn : ks.Nodup) (h : ls.length = ks.length) {i : Nat} {c : Crowd} {l : Addr} (h1 : ks[i]? = some c) (h2 : ls[i]? = some l) : valV (ks.zip (ls.map V.ref)) c = some (.ref l) :=
  valV_mem (by rw [zip_keys (by rw [List.length_map]; exact h)]; exact hn) (List.mem_of_getElem? (i := i) (List.getElem?_zip_eq_some.mpr ⟨h1, map_at h2⟩))
/-- one is put behind the others ahead of y -/
theorem AhAt.app {H : Hp} {A l b : Addr} {ks : List Crowd} {ls bs : List Addr} {pr : Crowd → List Crowd} {x y : Crowd} {j : Nat} (hn : ks.Nodup) (h : AhAt H A ks ls pr) (h1 : ks[j]? = some y) (h2 : ls[j]? = some l) (hb : H l = some (.lst (bs.map V.ref))) (pb : Paired (TI H) bs (pr y)) (eb : TI H b x) :
    AhAt (upd H l (.lst (bs.map V.ref ++ [V.ref b]))) A ks ls (fun z => if z = y then pr z ++ [x] else pr z) := by
  obtain ⟨a1, a2, a3, a4⟩ := h
  have t : Ts H (upd H l (.lst (bs.map V.ref ++ [V.ref b]))) := Ts.put hb rfl
  have hAl : A ≠ l := fun z => by rw [z, hb] at a3; cases a3
  refine ⟨a1, a2, by rw [upd_ne hAl]; exact a3, fun i c l' g1 g2 => ?_⟩
  by_cases e : c = y
  · subst e
    have hij : i = j := (List.getElem?_inj (List.getElem?_eq_some_iff.mp g1).1 hn).mp (g1.trans h1.symm)
    subst hij
    rw [g2] at h2
    have := Option.some.inj h2
    subst this
    show CrowdsAt _ _ (if c = c then pr c ++ [x] else pr c)
    rw [if_pos rfl]
    refine ⟨bs ++ [b], by rw [upd_same, List.map_append]; rfl, paired_snoc (paired_imp (fun _ _ q => t.tup q) pb) (t.tup eb)⟩
  · show CrowdsAt _ _ (if c = y then pr c ++ [x] else pr c)
    rw [if_neg e]
    have hne : l' ≠ l := fun z => by
      subst z
      have hij : i = j := (List.getElem?_inj (List.getElem?_eq_some_iff.mp g2).1 a2).mp (g2.trans h2.symm)
      subst hij
      rw [g1] at h1
      exact e (Option.some.inj h1)
    exact (a4 i c l' g1 g2).keep SameB.put t hne
end KH

namespace KH
open PySem PySem.Spec PyProof.Rows L2 KM
section
variable {P : Program} {w : World} {K : PySem.W.Frag} {mg : Str → Option Value} {base : Heap} {ad : Nat → Addr} {fd : Nat → FuncData}
/-! ### ranks_to -/
def spRanks : Sp := fun vs H Q _ => ∃ (g l : Addr) (r : Rl) (ks goals : List Crowd), vs = [.ref g, .ref l] ∧ r.Ok ∧ GraphAt H g r ks ∧ (∀ x ∈ ks, ∀ y ∈ succs r x, y ∈ ks) ∧ ks.length ≤ 130 ∧ CrowdsAt H l goals ∧ goals.Nodup ∧ (∀ x ∈ goals, x ∈ ks) ∧
  ∀ H' d Ps, Same H H' → H d = none → H' d = some (.dT (asg (intD Ps))) → Ranks r ks goals Ps → Q (.ref d) H'
/-- what ahead tells behind i of the crowds and j of the steps of the next one -/
def PrOk (r : Rl) (ks : List Crowd) (i : Nat) (pr : Crowd → List Crowd) : Prop := (∀ y x, x ∈ pr y ↔ x ∈ ks.take i ∧ y ∈ succs r x) ∧ ∀ y, (pr y).length ≤ 100 * i
def PrIn (r : Rl) (ks : List Crowd) (i : Nat) (x0 : Crowd) (j : Nat) (pr : Crowd → List Crowd) : Prop := (∀ y x, x ∈ pr y ↔ (x ∈ ks.take i ∧ y ∈ succs r x) ∨ (x = x0 ∧ ∃ s ∈ (stepsL r x0).take j, s.2 = y)) ∧ ∀ y, (pr y).length ≤ 100 * i + j
theorem PrIn.start {r : Rl} {ks : List Crowd} {i : Nat} {x0 : Crowd} {pr : Crowd → List Crowd} (h : PrOk r ks i pr) : PrIn r ks i x0 0 pr := ⟨fun y x => by rw [h.1]; simp, fun y => by have := h.2 y; omega⟩
theorem PrIn.step {r : Rl} {ks : List Crowd} {i j : Nat} {x0 : Crowd} {pr : Crowd → List Crowd} {st : Nat × Crowd} (h : PrIn r ks i x0 j pr) (hs : (stepsL r x0)[j]? = some st) : PrIn r ks i x0 (j + 1) (fun z => if z = st.2 then pr z ++ [x0] else pr z) := by
  refine ⟨fun y x => ?_, fun y => ?_⟩
  · show x ∈ (if y = st.2 then pr y ++ [x0] else pr y) ↔ _
    by_cases e : y = st.2
    · rw [if_pos e, List.mem_append, h.1]
      constructor
      · rintro ((q | ⟨q1, s, q2, q3⟩) | q)
        · exact .inl q
        · exact .inr ⟨q1, s, (mem_take_succ hs).mpr (.inl q2), q3⟩
        · exact .inr ⟨List.mem_singleton.mp q, st, (mem_take_succ hs).mpr (.inr rfl), e.symm⟩
      · rintro (q | ⟨q1, s, q2, q3⟩)
        · exact .inl (.inl q)
        · exact .inr (by rw [q1]; simp)
    · rw [if_neg e, h.1]
      constructor
      · rintro (q | ⟨q1, s, q2, q3⟩)
        · exact .inl q
        · exact .inr ⟨q1, s, (mem_take_succ hs).mpr (.inl q2), q3⟩
      · rintro (q | ⟨q1, s, q2, q3⟩)
        · exact .inl q
        · rcases (mem_take_succ hs).mp q2 with q2 | q2
          · exact .inr ⟨q1, s, q2, q3⟩
          · exact absurd (q3.symm.trans (by rw [q2])) e
  · show (if y = st.2 then pr y ++ [x0] else pr y).length ≤ _
    have := h.2 y
    split
    · rw [List.length_append]; simp; omega
    · omega
theorem PrIn.fin {r : Rl} {ks : List Crowd} {i : Nat} {x0 : Crowd} {pr : Crowd → List Crowd} (h : PrIn r ks i x0 (stepsL r x0).length pr) (hi : ks[i]? = some x0) (hl : (stepsL r x0).length ≤ 100) : PrOk r ks (i + 1) pr := by
  refine ⟨fun y x => ?_, fun y => by have := h.2 y; omega⟩
  rw [h.1, mem_take_succ hi, List.take_length]
  constructor
  · rintro (⟨q1, q2⟩ | ⟨q1, s, q2, q3⟩)
    · exact ⟨.inl q1, q2⟩
    · exact ⟨.inr q1, by rw [q1]; exact mem_succs.mpr ⟨s.1, by rw [← q3]; exact q2⟩⟩
  · rintro ⟨q1 | q1, q2⟩
    · exact .inl ⟨q1, q2⟩
    · rw [q1] at q2
      obtain ⟨n, hn⟩ := mem_succs.mp q2
      exact .inr ⟨q1, (n, y), hn, rfl⟩
theorem ok22 (T : Tx K mg ad fd) : FnOk P w K mg base CX0 1 (ad 22) (fd 22) P22 spRanks := by
  have nd := sc22.nd
  refine T.f_ranks_to.ok sc22 (fun vs H Q E h => ?_) (fun cdv A outer s H vs Q E hr h => ?_)
  · obtain ⟨g, l, r, ks, goals, rfl, _⟩ := h
    rfl
  · obtain ⟨g, l, r, ks, goals, rfl, ho, ⟨gp, eG, kG, nG, bG⟩, hcl, few, hg, ng, hsub, q⟩ := h
    refine ⟨_, PSs.nox (pss_cons (ps_set (i := 2) nd rfl (Or.inl rfl) (pe_callTy (KW.dctT K (hu_d hr)) (by rfl) T.b_dict (by decide +kernel) (pa_cons (pe_lock (pe_lc (own := [("crowd", 3)]) (g := (gName 3)) (tt := tYes) (by rfl) nd (pi_keys (pv 0)) (blkOk_by (N := N22) (sc := defScope (topS 22)) (by decide +kernel)) (fun _ _ _ _ _ => pg_name (i := 3) nd rfl (Or.inl rfl)) (fun _ _ _ _ _ => pts_nil) (fun _ _ _ _ _ => (pe_tup (pa_cons (pv 3) (pa_cons (pe_lst pa_nil) pa_nil)))))) pa_nil)))
  (pss_cons (ps_lock (ps_for PassesOwn.never rfl (pi_keys (pv 0)) (pg_name (i := 3) nd rfl (Or.inl rfl))
    (pss_one (ps_for PassesOwn.never rfl (pi_list (pe_dget (hu_of hr) (pv 0) (pv 3) (fun _ _ => rfl))) (pg_tup rfl (pgs_cons (pg_name (i := 4) nd rfl (Or.inl rfl)) (pgs_cons (pg_name (i := 5) nd rfl (Or.inl rfl)) pgs_nil)))
    (pss_one (ps_expr (pe_bm PySem.F.plainAttrs_list PySem.F.slot_list_append PySem.F.type_list_append mt_append (pe_dget (hu_of hr) (pv 2) (pv 5) (fun _ _ => rfl)) (pa_cons (pv 3) pa_nil))))))))
  (pss_cons (ps_set (i := 6) nd rfl (Or.inl rfl) (pe_callTy (KW.dctT K (hu_d hr)) (by rfl) T.b_dict (by decide +kernel) (pa_cons (pe_lc (own := [("goal", 9)]) (g := (gName 9)) (tt := tYes) (by rfl) nd (pi_list (pv 1)) (blkOk_by (N := N22) (sc := defScope (topS 22)) (by decide +kernel)) (fun _ _ _ _ _ => pg_name (i := 9) nd rfl (Or.inl rfl)) (fun _ _ _ _ _ => pts_nil) (fun _ _ _ _ _ => (pe_tup (pa_cons (pv 9) (pa_cons pe_int pa_nil))))) pa_nil)))
  (pss_cons (ps_set (i := 7) nd rfl (Or.inl rfl) (pe_callTy (KW.lstO K) (by rfl) T.b_list (by decide +kernel) (pa_cons (pv 1) pa_nil)))
  (pss_cons (ps_set (i := 8) nd rfl (Or.inl rfl) pe_int)
  (pss_cons (ps_while PassesOwn.never (pt_cmpR op_lt (pv 8) (pe_callB (KW.lenS K) (by rfl) T.b_len (by decide +kernel) (pa_cons (pv 7) pa_nil)) (nomark _))
    (pss_cons (ps_for PassesOwn.never rfl (pi_list (pe_dget (hu_of hr) (pv 2) (pe_ix (KW.ixL K) (pv 7) (pv 8) (fun _ _ => rfl)) (fun _ _ => rfl))) (pg_name (i := 3) nd rfl (Or.inl rfl))
    (pss_one (ps_if (pt_cmp (pc_dnotin (hu_of hr) (pv 3) (pv 6)))
    (pss_cons (ps_dput (hu_of hr) (pv 6) (pv 3) (pe_op op_add (pe_dget (hu_of hr) (pv 6) (pe_ix (KW.ixL K) (pv 7) (pv 8) (fun _ _ => rfl)) (fun _ _ => rfl)) pe_int) rfl)
  (pss_one (ps_expr (pe_bm PySem.F.plainAttrs_list PySem.F.slot_list_append PySem.F.type_list_append mt_append (pv 7) (pa_cons (pv 3) pa_nil)))))
    pss_nil)))
  (pss_one (ps_set (i := 8) nd rfl (Or.inl rfl) (pe_op op_add (pv 8) pe_int)))))
  (pss_one (ps_ret (pv 6))))))))), ?_⟩
    have lgp : gp.length = ks.length := by rw [← kG, List.length_map]
    -- ahead
    refine ⟨g, _, eG, True.intro, fun od => ⟨.ref g, rfl, ?_⟩⟩
    refine ⟨g, od, rfl, .inr ⟨asg gp, upd_same, fun D nD => ?_⟩⟩
    have nDH := lock_free eG nD
    obtain ⟨Hk, eHk⟩ : ∃ Hk, Hk = upd H g (.frz od (.dT (asg gp))) := ⟨_, rfl⟩
    have lk : GraphLk Hk g od r gp := by rw [eHk]; exact graph_lock eG bG
    rw [← eHk] at nD ⊢
    refine lc_it (walk_keysT (kvs := asg gp)) (fun i H1 => Same Hk H1 ∧ ∃ es : List (Addr × Addr), es.length = i ∧ H1 D = some (.lst (es.map fun e => .ref e.1)) ∧ (es.map (·.2)).Nodup ∧
        ∀ (j : Nat) (e : Addr × Addr), es[j]? = some e → (∃ c b, ks[j]? = some c ∧ H1 e.1 = some (.tup [.ref b, .ref e.2]) ∧ TI H1 b c) ∧ H1 e.2 = some (.lst []) ∧ e.2 ≠ D ∧ Hk e.2 = none)
      ⟨same_new nD, [], rfl, upd_same, List.nodup_nil, fun j e h => by simp at h⟩ (fun i H1 _ hp => hp.1 _ _ lk.1) (fun i x H1 H2 hi hp hy => ?_) (fun H1 hp => ?_)
    · obtain ⟨sm, es, el, eD, ne, he⟩ := hp
      obtain ⟨rfl, k, v, qa, hk, rfl, hq⟩ := hy
      obtain ⟨c, hc, tc⟩ := key_ti hk hq
      have hkc := map_fst_at kG hc
      refine ⟨rfl, .ref qa, rfl, Nat.zero_le _, fun lN nl => ⟨by show 2 ≤ sizeLine; decide, fun t nt => ?_⟩⟩
      have nlk := same_free sm nl
      have s3 := same_new (o := .lst []) nl
      have s4 := s3.trans (same_new (o := .tup [.ref qa, .ref lN]) nt)
      have hlD : lN ≠ D := fun z => by rw [z, eD] at nl; cases nl
      have hlt : lN ≠ t := fun z => by rw [← z, upd_same] at nt; cases nt
      obtain ⟨H5, eH5⟩ : ∃ H5, H5 = upd (upd H2 lN (.lst [])) t (.tup [.ref qa, .ref lN]) := ⟨_, rfl⟩
      rw [← eH5] at s4 ⊢
      have e5D := s4 _ _ eD
      refine ⟨_, e5D, ?_, same_put (sm.trans s4) nD, es ++ [(t, lN)], by simp [el], ?_, ?_, fun j e hj => ?_⟩
      · rw [List.length_map, el, len_asg] at *
        exact small (by omega)
      · rw [upd_same, List.map_append]
        rfl
      · rw [List.map_append]
        refine nodup_snoc ne fun hm => ?_
        obtain ⟨e, hem, ee⟩ := List.mem_map.mp hm
        obtain ⟨j, hj⟩ := List.mem_iff_getElem?.mp hem
        have := (he j e hj).2.1
        rw [ee, nl] at this
        cases this
      · have t6 : Ts H5 (upd H5 D (.lst ((es.map fun e => V.ref e.1) ++ [V.ref t]))) := Ts.put e5D rfl
        by_cases hjl : j < es.length
        · rw [List.getElem?_append_left hjl] at hj
          obtain ⟨⟨c', b', h1, h2, h3⟩, h4, h5, h6⟩ := he j e hj
          refine ⟨⟨c', b', h1, t6.tup (s4 _ _ h2), t6.tup (s4 _ _ h3)⟩, ?_, h5, h6⟩
          rw [upd_ne h5]
          exact s4 _ _ h4
        · have hj2 : j = es.length := by
            have := (List.getElem?_eq_some_iff.mp hj).1
            rw [List.length_append] at this
            simp at this
            omega
          subst hj2
          rw [List.getElem?_append_right (Nat.le_refl _), Nat.sub_self] at hj
          have := Option.some.inj hj
          subst this
          refine ⟨⟨c, qa, by rw [el]; exact hkc, t6.tup (by rw [eH5]; exact upd_same), t6.tup (s4 _ _ tc)⟩, ?_, hlD, nlk⟩
          rw [upd_ne hlD, eH5, upd_ne hlt, upd_same]
    · -- behind the comprehension
      obtain ⟨sm, es, el, eD, ne, he⟩ := hp
      rw [len_asg, lgp] at el
      refine ⟨sm _ _ lk.1, ?_⟩
      have smH : Same H (upd H1 g (.dT (asg gp))) := by rw [eHk] at sm; exact same_unlock eG sm
      have hDg : D ≠ g := fun z => by rw [z, lk.1] at nD; cases nD
      have tsU : Ts H1 (upd H1 g (.dT (asg gp))) := Ts.put (sm _ _ lk.1) rfl
      have seU : ∀ {x : Addr} {o : HO}, Hk x = none → H1 x = some o → (upd H1 g (.dT (asg gp))) x = some o := fun {x o} hn hx => by
        rw [upd_ne (fun z => by rw [z, lk.1] at hn; cases hn)]
        exact hx
      obtain ⟨H2, eH2⟩ : ∃ H2, H2 = upd H1 g (.dT (asg gp)) := ⟨_, rfl⟩
      rw [← eH2] at smH tsU seU ⊢
      have e2D := seU nD eD
      have hlen : es.length = ks.length := el
      refine ⟨D, es.map (·.1), asg (ks.zip ((es.map (·.2)).map V.ref)), rfl, .inl (SqL.of (by rw [List.map_map]; exact e2D)), ?_, fun A0 nA => ?_⟩
      · -- the pairs
        have : ∀ (es : List (Addr × Addr)) (ks : List Crowd), es.length = ks.length → (∀ (j : Nat) (e : Addr × Addr), es[j]? = some e → ∃ c b, ks[j]? = some c ∧ H2 e.1 = some (.tup [.ref b, .ref e.2]) ∧ TI H2 b c) → PrsT H2 (es.map (·.1)) (asg (ks.zip ((es.map (·.2)).map V.ref))) := by
          intro es
          induction es with
          | nil =>
            intro ks hl _
            have : ks = [] := List.eq_nil_of_length_eq_zero hl.symm
            subst this
            exact .nil
          | cons e es ih =>
            intro ks hl hh
            cases ks with
            | nil => simp at hl
            | cons c ks =>
              obtain ⟨c', b, h1, h2, h3⟩ := hh 0 e rfl
              have := Option.some.inj h1
              subst this
              exact .cons ⟨b, h2, tiK h3⟩ (ih ks (by simpa using hl) fun j e' hj => hh (j + 1) e' (by simpa using hj))
        exact this es ks hlen fun j e hj => by
          obtain ⟨⟨c, b, h1, h2, h3⟩, _⟩ := he j e hj
          exact ⟨c, b, h1, tsU.tup h2, tsU.tup h3⟩
      rw [merge_nd (by rw [zip_keys (by rw [List.length_map, List.length_map]; exact hlen)]; exact nG)]
      have nA0 := same_free smH nA
      have hAg : A0 ≠ g := fun z => by rw [z, eH2, upd_same] at nA; cases nA
      have s3 := same_new (o := .dT (asg (ks.zip ((es.map (·.2)).map V.ref)))) nA
      obtain ⟨H3, eH3⟩ : ∃ H3, H3 = upd H2 A0 (.dT (asg (ks.zip ((es.map (·.2)).map V.ref)))) := ⟨_, rfl⟩
      rw [← eH3] at s3 ⊢
      obtain ⟨ls, els⟩ : ∃ ls, ls = es.map (·.2) := ⟨_, rfl⟩
      rw [← els] at eH3 ne
      have lls : ls.length = ks.length := by rw [els, List.length_map]; exact hlen
      have hls : ∀ x ∈ ls, Hk x = none ∧ H3 x = some (.lst []) := fun x hx => by
        rw [els] at hx
        obtain ⟨e, hem, rfl⟩ := List.mem_map.mp hx
        obtain ⟨j, hj⟩ := List.mem_iff_getElem?.mp hem
        obtain ⟨_, h2, h3, h4⟩ := he j e hj
        exact ⟨h4, s3 _ _ (seU h4 h2)⟩
      have ah0 : AhAt H3 A0 ks ls (fun _ => []) := ⟨lls, ne, by rw [eH3]; exact upd_same, fun i c x h1 h2 => ⟨[], (hls x (List.mem_of_getElem? h2)).2, .nil⟩⟩
      have sm3 : Same H H3 := smH.trans s3
      have nH : ∀ x ∈ ls, H x = none := fun x hx => by
        have := (hls x hx).1
        rw [eHk] at this
        exact lock_free eG this
      -- for crowd in graph
      have eG3 := sm3 _ _ eG
      have bG3 := bG.same sm3
      refine ⟨g, _, eG3, True.intro, fun od2 => ⟨.ref g, rfl, g, od2, rfl, .inr ⟨asg gp, upd_same, ?_⟩⟩⟩
      obtain ⟨Hl, eHl⟩ : ∃ Hl, Hl = upd H3 g (.frz od2 (.dT (asg gp))) := ⟨_, rfl⟩
      have lk2 : GraphLk Hl g od2 r gp := by rw [eHl]; exact graph_lock eG3 bG3
      have hgl : g ∉ ls := fun z => by have := nH g z; rw [eG] at this; cases this
      have ahl : AhAt Hl A0 ks ls (fun _ => []) := by rw [eHl]; exact ah0.keep SameB.put (Ts.put eG3 rfl) hAg hgl
      rw [← eHl]
      -- what is kept of H while the graph is locked
      have keepH : ∀ (b : Addr) (o : HO), b ≠ g → H b = some o → Hl b = some o := fun b o hb e => by
        rw [eHl, upd_ne hb]
        exact sm3 _ _ e
      refine for_it (walk_keysT (kvs := asg gp)) (fun i σ H4 => ∃ x3 x4 x5, σ = [some (.ref g), some (.ref l), some (.ref A0), x3, x4, x5, none, none, none, none] ∧ (∀ b o, Hl b = some o → b ∉ ls → H4 b = some o) ∧ ∃ pr, AhAt H4 A0 ks ls pr ∧ PrOk r ks i pr)
        ⟨none, none, none, rfl, fun b o e _ => e, fun _ => [], ahl, fun y x => by simp, fun y => Nat.zero_le _⟩ (fun i σ H4 _ hp => ?_) (fun i x σ H4 H5 hi hp hy => ?_) (fun σ H4 hp => ?_)
      · obtain ⟨_, _, _, _, kp, _⟩ := hp
        exact kp _ _ lk2.1 hgl
      · obtain ⟨x3, x4, x5, rfl, kp, pr, ah, pk⟩ := hp
        obtain ⟨rfl, k, v, qa, hk, rfl, hq⟩ := hy
        obtain ⟨c, hc, tc⟩ := key_ti hk hq
        have hkc := map_fst_at kG hc
        have tL : ∀ (b : Addr) (o : HO), isT o = true → Hl b = some o → b ∉ ls := fun b o ho eb hm => by
          have h1 := (hls b hm).2
          have h2 : Hl b = some (.lst []) := by
            rw [eHl, upd_ne (show b ≠ g from fun z => hgl (z ▸ hm))]
            exact h1
          rw [h2] at eb
          rw [← Option.some.inj eb] at ho
          cases ho
        obtain ⟨sl, rfl, ts, es1, ps1⟩ := graph_step lk2.2 hc
        have hslg : sl ≠ g := fun z => by rw [z, lk2.1] at es1; cases es1
        have hsl : sl ∉ ls := fun hm => by
          obtain ⟨l2, h1, _, ts2, h2, _⟩ := bG _ (List.mem_of_getElem? hc)
          have h1' := V.ref.inj h1
          subst h1'
          have := nH _ hm
          rw [h2] at this
          cases this
        have kpT : Ts Hl H5 := fun b o ho eb => kp b o eb (tL b o ho eb)
        refine ⟨.ref g, rfl, .ref qa, rfl, g, .ref sl, rfl, ?_, sl, rfl, ⟨_, SqL.of (kp _ _ es1 hsl)⟩, ?_⟩
        · have : valV gp c = some (.ref sl) := valV_mem (by rw [kG]; exact nG) (List.mem_of_getElem? hc)
          rw [← this]
          exact dget_f (kp _ _ lk2.1 hgl) tc
        refine for_it (walk_list (xs := ts.map V.ref)) (fun j σ H6 => ∃ x4 x5, σ = [some (.ref g), some (.ref l), some (.ref A0), some (.ref qa), x4, x5, none, none, none, none] ∧ (∀ b o, Hl b = some o → b ∉ ls → H6 b = some o) ∧ TI H6 qa c ∧ ∃ pr, AhAt H6 A0 ks ls pr ∧ PrIn r ks i c j pr)
          ⟨x4, x5, rfl, kp, tc, pr, ah, .start pk⟩ (fun j σ H6 _ hp => ?_) (fun j y σ H6 H7 hj hp hy => ?_) (fun σ H6 hp => ?_)
        · obtain ⟨_, _, _, kp2, _⟩ := hp
          exact SqL.of (kp2 _ _ es1 hsl)
        · obtain ⟨x4, x5, rfl, kp2, tc2, pr2, ah2, pi⟩ := hp
          obtain ⟨rfl, hy⟩ := hy
          obtain ⟨t, ht, rfl⟩ := map_at' hy
          obtain ⟨st, hst, bb, et, ebb⟩ := paired_at' ps1 ht
          have kpT2 : Ts Hl H7 := fun b o ho eb => kp2 b o eb (tL b o ho eb)
          have hyk : st.2 ∈ ks := hcl c (List.mem_of_getElem? hkc) _ (mem_succs.mpr ⟨st.1, List.mem_of_getElem? hst⟩)
          obtain ⟨j2, hj2⟩ := List.mem_iff_getElem?.mp hyk
          have hj2l : j2 < ls.length := by rw [lls]; exact (List.getElem?_eq_some_iff.mp hj2).1
          have hl2 := List.getElem?_eq_getElem hj2l
          obtain ⟨bs, hb1, hb2⟩ := ah2.2.2.2 j2 _ _ hj2 hl2
          have hlb := Paired.length hb2
          refine ⟨t, _, rfl, SqT.of (kpT2.tup et), rfl, _, _, rfl, _, _, rfl, rfl, ?_⟩
          refine ⟨.ref A0, rfl, .ref bb, rfl, A0, .ref ls[j2], rfl, ?_, .inl ⟨rfl, _, SqL.of hb1⟩, .ref qa, rfl, ls[j2], _, _, rfl, rfl, hb1, ?_, ?_⟩
          · rw [← zip_val nG lls hj2 hl2]
            exact dget_c ah2.2.2.1 (kpT2.tup ebb)
          · have := pi.2 st.2
            have hi2 : i < 130 := by rw [len_asg, lgp] at hi; omega
            have hj3 : j ≤ 100 := by
              have := (List.getElem?_eq_some_iff.mp hst).1
              rw [steps_len] at this
              have := can_few ho c
              omega
            rw [List.length_map, hlb]
            exact small (by omega)
          · refine ⟨_, _, rfl, fun b o eb hb => ?_, ?_, _, ah2.app nG hj2 hl2 hb1 hb2 tc2, pi.step hst⟩
            · rw [upd_ne (show b ≠ ls[j2] from fun z => hb (z ▸ List.getElem_mem hj2l))]
              exact kp2 b o eb hb
            · exact (Ts.put hb1 rfl).tup tc2
        · obtain ⟨x4, x5, rfl, kp2, tc2, pr2, ah2, pi⟩ := hp
          have elen : (ts.map V.ref).length = (stepsL r c).length := by rw [List.length_map, Paired.length ps1]
          rw [elen] at pi
          exact ⟨_, _, _, rfl, kp2, pr2, ah2, pi.fin hkc (by rw [steps_len]; exact can_few ho c)⟩
      · obtain ⟨x3, x4, x5, rfl, kp, pr, ah, pk⟩ := hp
        rw [len_asg, lgp] at pk
        refine ⟨kp _ _ lk2.1 hgl, ?_⟩
        -- unlocked
        have eg4 := kp _ _ lk2.1 hgl
        obtain ⟨H5, eH5⟩ : ∃ H5, H5 = upd H4 g (.dT (asg gp)) := ⟨_, rfl⟩
        have sm5 : Same H H5 := fun b o eb => by
          by_cases hb : b = g
          · subst hb
            rw [eG] at eb
            rw [eH5, upd_same]
            exact eb
          · rw [eH5, upd_ne hb]
            exact kp b o (keepH b o hb eb) fun hm => by rw [nH b hm] at eb; cases eb
        have ah5 : AhAt H5 A0 ks ls pr := by rw [eH5]; exact ah.keep SameB.put (Ts.put eg4 rfl) hAg hgl
        rw [← eH5]
        obtain ⟨gbs, hgb, eg5, pg5⟩ := (hg.same sm5).len
        -- found = dict([(goal, 0) ..])
        refine ⟨.ref l, rfl, l, rfl, ⟨_, SqL.of eg5⟩, fun D2 nD2 => lc_map (walk_list (xs := gbs.map V.ref)) goals (by rw [List.length_map, hgb]) (by rw [List.length_map, hgb]; have := nodup_len goals ks ng hsub; omega) (fun c y H' => ∃ t, y = V.ref t ∧ ∃ b, H' t = some (.tup [.ref b, .int 0]) ∧ TI H' b c) nD2 (fun _ _ _ _ t h => by obtain ⟨u, h1, b, h2, h3⟩ := h; exact ⟨u, h1, b, t.tup h2, t.tup h3⟩) (fun H6 s6 => SqL.of (s6 _ _ eg5)) (fun i c y H6 H7 KY hi s6 hy ky => ?_) (fun H6 ys s6 eD2 pr2 => ?_)⟩
        · obtain ⟨rfl, hy⟩ := hy
          obtain ⟨b, hb, rfl⟩ := map_at' hy
          obtain ⟨c', hc', hbc⟩ := paired_at' pg5 hb
          rw [hi] at hc'
          cases hc'
          refine ⟨rfl, .ref b, rfl, by show 2 ≤ sizeLine; decide, fun t nt => ky _ _ (same_new nt) ⟨t, rfl, b, upd_same, same_new nt _ _ (s6 _ _ hbc)⟩⟩
        · obtain ⟨ts2, rfl, pts2⟩ := refs_of (S := fun t c => ∃ b, H6 t = some (.tup [.ref b, .int 0]) ∧ TI H6 b c) pr2
          have pk2 : PrsT H6 ts2 (asg (intD (goals.map fun g => (g, 0)))) := by
            have : ∀ {ts : List Addr} {gs : List Crowd}, Paired (fun t c => ∃ b, H6 t = some (.tup [.ref b, .int 0]) ∧ TI H6 b c) ts gs → PrsT H6 ts (asg (intD (gs.map fun g => (g, 0)))) := by
              intro ts gs h
              induction h with
              | nil => exact .nil
              | cons h t ih =>
                obtain ⟨b, h1, h2⟩ := h
                exact .cons ⟨b, h1, tiK h2⟩ ih
            exact this pts2
          refine ⟨D2, ts2, _, rfl, .inl (SqL.of eD2), pk2, fun Fd nF => ?_⟩
          have k0 : KInv r ks goals (goals.map fun g => (g, 0)) 0 := KInv.start ng hsub
          rw [merge_nd (by rw [intD_keys]; exact k0.nd)]
          have sm6 : Same H H6 := sm5.trans s6
          have nF0 := same_free sm6 nF
          have hFA : Fd ≠ A0 := fun z => by rw [z, s6 _ _ ah5.2.2.1] at nF; cases nF
          have ah6 : AhAt H6 A0 ks ls pr := ah5.same s6
          have s7 := same_new (o := .dT (asg (intD (goals.map fun g => (g, 0))))) nF
          obtain ⟨H7, eH7⟩ : ∃ H7, H7 = upd H6 Fd (.dT (asg (intD (goals.map fun g => (g, 0))))) := ⟨_, rfl⟩
          rw [← eH7] at s7 ⊢
          have e7F : H7 Fd = some (.dT (asg (intD (goals.map fun g => (g, 0))))) := by rw [eH7]; exact upd_same
          -- line = list(goals)
          have eg7 := s7 _ _ (s6 _ _ eg5)
          refine ⟨.ref l, rfl, l, _, rfl, .inl (SqL.of eg7), fun Ld nL => ?_⟩
          have nL0 := same_free (sm6.trans s7) nL
          have hLF : Ld ≠ Fd := fun z => by rw [z, e7F] at nL; cases nL
          have hLA : Ld ≠ A0 := fun z => by rw [z, s7 _ _ ah6.2.2.1] at nL; cases nL
          have hLls : Ld ∉ ls := fun hm => by
            obtain ⟨j, hj⟩ := List.mem_iff_getElem?.mp hm
            have hjk : j < ks.length := by rw [← lls]; exact (List.getElem?_eq_some_iff.mp hj).1
            obtain ⟨bs, h1, _⟩ := (ah6.same s7).2.2.2 j _ _ (List.getElem?_eq_getElem hjk) hj
            rw [nL] at h1
            cases h1
          have hFls : Fd ∉ ls := fun hm => by
            obtain ⟨j, hj⟩ := List.mem_iff_getElem?.mp hm
            have hjk : j < ks.length := by rw [← lls]; exact (List.getElem?_eq_some_iff.mp hj).1
            obtain ⟨bs, h1, _⟩ := ah6.2.2.2 j _ _ (List.getElem?_eq_getElem hjk) hj
            rw [nF] at h1
            cases h1
          have s8 := same_new (o := .lst (gbs.map V.ref)) nL
          have keys0 : (goals.map fun g => ((g, 0) : Crowd × Int)).map (·.1) = goals := by rw [List.map_map]; exact List.map_id goals
          refine ⟨fun m σ H8 => ∃ Ps k x3 x4 x5 x9, m = 200 - k ∧ σ = [some (.ref g), some (.ref l), some (.ref A0), x3, x4, x5, some (.ref Fd), some (.ref Ld), some (.int (k : Nat)), x9] ∧ Same H H8 ∧ AhAt H8 A0 ks ls pr ∧ H8 Fd = some (.dT (asg (intD Ps))) ∧ CrowdsAt H8 Ld (Ps.map (·.1)) ∧ KInv r ks goals Ps k,
            ⟨200, goals.map fun g => (g, 0), 0, x3, x4, x5, none, rfl, rfl, (sm6.trans s7).trans s8, (ah6.same s7).same s8, s8 _ _ e7F, ?_, k0⟩, fun m σ H8 hW => ?_⟩
          · rw [keys0]
            exact ⟨gbs, upd_same, paired_imp (fun _ _ h => s8 _ _ (s7 _ _ (s6 _ _ h))) pg5⟩
          · obtain ⟨Ps, k, x3, x4, x5, x9, rfl, rfl, sm8, ah8, eF8, eL8, ki⟩ := hW
            obtain ⟨lbs, hlb, eL8', pL8⟩ := eL8.len
            have hP : Ps.length ≤ 130 := by
              have := nodup_len (Ps.map (·.1)) ks ki.nd fun x hx => by
                obtain ⟨p, hp, rfl⟩ := List.mem_map.mp hx
                exact ki.sub p hp
              rw [List.length_map] at this
              omega
            refine ⟨_, rfl, .ref Ld, rfl, Ld, _, rfl, .inl (SqL.of eL8'), _, _, rfl, rfl, _, rfl, ?_⟩
            rw [List.length_map, hlb, List.length_map]
            have hle := ki.le
            by_cases hlt : k < Ps.length
            · rw [decide_eq_true (show (k : Int) < (Ps.length : Int) by omega)]
              refine iteT ⟨fun σ' H' => ∃ Ps' x3 x4 x5 x9, σ' = [some (.ref g), some (.ref l), some (.ref A0), x3, x4, x5, some (.ref Fd), some (.ref Ld), some (.int ((k + 1 : Nat) : Int)), x9] ∧ Same H H' ∧ AhAt H' A0 ks ls pr ∧ H' Fd = some (.dT (asg (intD Ps'))) ∧ CrowdsAt H' Ld (Ps'.map (·.1)) ∧ KInv r ks goals Ps' (k + 1),
                fun σ' H' hN => ?_, ?_⟩
              · obtain ⟨Ps', y3, y4, y5, y9, e1, e2⟩ := hN
                exact ⟨200 - (k + 1), by omega, Ps', k + 1, y3, y4, y5, y9, rfl, e1, e2⟩
              obtain ⟨p, hp⟩ : ∃ p, Ps[k]? = some p := ⟨Ps[k], List.getElem?_eq_getElem hlt⟩
              have hpk : (Ps.map (·.1))[k]? = some p.1 := by rw [List.getElem?_map, hp]; rfl
              obtain ⟨yb, hyb, ety⟩ := paired_at pL8 hpk
              have hpks := ki.sub p (List.mem_of_getElem? hp)
              obtain ⟨j, hj⟩ := List.mem_iff_getElem?.mp hpks
              have hjl : j < ls.length := by rw [lls]; exact (List.getElem?_eq_some_iff.mp hj).1
              have hlj := List.getElem?_eq_getElem hjl
              obtain ⟨abs, ha1, ha2⟩ := ah8.2.2.2 j _ _ hj hlj
              have hprl := Paired.length ha2
              have hprb := pk.2 p.1
              have hljL : ls[j] ≠ Ld := fun z => hLls (z ▸ List.getElem_mem hjl)
              have hljF : ls[j] ≠ Fd := fun z => hFls (z ▸ List.getElem_mem hjl)
              refine ⟨.ref A0, rfl, .ref Ld, rfl, _, rfl, Ld, _, _, .ref yb, rfl, rfl, SqL.of eL8', at_nat (map_at hyb), A0, .ref ls[j], rfl, ?_, ls[j], rfl, ⟨_, SqL.of ha1⟩, ?_⟩
              · rw [← zip_val nG lls hj hlj]
                exact dget_c ah8.2.2.1 ety
              refine for_it (walk_list (xs := abs.map V.ref)) (fun i σ H9 => ∃ P2 x3, σ = [some (.ref g), some (.ref l), some (.ref A0), x3, x4, x5, some (.ref Fd), some (.ref Ld), some (.int (k : Nat)), x9] ∧ Same H H9 ∧ AhAt H9 A0 ks ls pr ∧ H9 ls[j] = some (.lst (abs.map V.ref)) ∧ Paired (TI H9) abs (pr p.1) ∧ H9 Fd = some (.dT (asg (intD P2))) ∧ CrowdsAt H9 Ld (P2.map (·.1)) ∧ KIn r ks goals Ps p.1 (pr p.1) P2 i)
                ⟨Ps, x3, rfl, sm8, ah8, ha1, ha2, eF8, eL8, KIn.start ki⟩ (fun i σ H9 _ hp => ?_) (fun i y σ H9 H10 hi hp hy => ?_) (fun σ H9 hp => ?_)
              · obtain ⟨_, _, _, _, _, e, _⟩ := hp
                exact SqL.of e
              · rename_i hp0
                obtain ⟨P2, y3, rfl, sm9, ah9, e9l, p9, eF9, eL9, kin⟩ := hp
                obtain ⟨rfl, hy⟩ := hy
                obtain ⟨xb, hxb, rfl⟩ := map_at' hy
                obtain ⟨x, hx, etx⟩ := paired_at' p9 hxb
                obtain ⟨hxk, hxs⟩ := (pk.1 p.1 x).mp (List.mem_of_getElem? hx)
                rw [List.take_length] at hxk
                refine ⟨.ref xb, rfl, .ref Fd, rfl, Fd, _, rfl, dget_c eF9 etx, _, rfl, ?_⟩
                rw [valV_some_iff, intD_keys]
                by_cases hm : x ∈ P2.map (·.1)
                · rw [decide_eq_true hm]
                  exact iteF ⟨P2, _, rfl, sm9, ah9, e9l, p9, eF9, eL9, kin.skip hx hm⟩
                · rw [decide_eq_false hm]
                  obtain ⟨b9, hb9, eL9', pL9⟩ := eL9.len
                  have hP2 : P2.length ≤ 130 := by
                    have := nodup_len (P2.map (·.1)) ks kin.nd fun x hx => by
                      obtain ⟨p, hp, rfl⟩ := List.mem_map.mp hx
                      exact kin.sub p hp
                    rw [List.length_map] at this
                    omega
                  obtain ⟨tt, ht⟩ := kin.pre
                  have hp2 : P2[k]? = some p := by rw [ht, List.getElem?_append_left hlt]; exact hp0
                  have hpk2 : (P2.map (·.1))[k]? = some p.1 := by rw [List.getElem?_map, hp2]; rfl
                  obtain ⟨yb2, hyb2, ety2⟩ := paired_at pL9 hpk2
                  have hpm : (p.1, p.2) ∈ P2 := List.mem_of_getElem? hp2
                  have hval := intD_val kin.nd hpm
                  refine iteT ⟨.ref Fd, rfl, .ref Ld, rfl, _, rfl, Ld, _, _, .ref yb2, rfl, rfl, SqL.of eL9', at_nat (map_at hyb2), Fd, .int p.2, rfl, by rw [← hval]; exact dget_c eF9 ety2, p.2, 1, rfl, rfl, ?_⟩
                  refine ⟨.ref Fd, rfl, .ref xb, rfl, Fd, _, rfl, dput_c eF9 etx (small (by rw [List.length_map]; omega)), ?_⟩
                  rw [putK_new' _ (by rw [intD_keys]; exact hm)]
                  have t1 : Ts H10 (upd H10 Fd (.dT (asg (intD P2 ++ [(x, .int (p.2 + 1))])))) := Ts.put eF9 rfl
                  have b1 : SameB Fd H10 (upd H10 Fd (.dT (asg (intD P2 ++ [(x, .int (p.2 + 1))])))) := SameB.put
                  obtain ⟨H11, eH11⟩ : ∃ H11, H11 = upd H10 Fd (.dT (asg (intD P2 ++ [(x, .int (p.2 + 1))]))) := ⟨_, rfl⟩
                  rw [← eH11] at t1 b1 ⊢
                  have e11 : H11 Fd = some (.dT (asg (intD (P2 ++ [(x, p.2 + 1)])))) := by
                    rw [eH11, upd_same]
                    unfold intD
                    rw [List.map_append]
                    rfl
                  have l11 : H11 Ld = some (.lst (b9.map V.ref)) := b1 _ _ hLF eL9'
                  refine ⟨.ref Ld, rfl, .inl ⟨rfl, _, SqL.of l11⟩, .ref xb, rfl, Ld, _, _, rfl, rfl, l11, small (by rw [List.length_map, hb9, List.length_map]; omega), ?_⟩
                  have t2 : Ts H11 (upd H11 Ld (.lst (b9.map V.ref ++ [V.ref xb]))) := Ts.put l11 rfl
                  have b2 : SameB Ld H11 (upd H11 Ld (.lst (b9.map V.ref ++ [V.ref xb]))) := SameB.put
                  refine ⟨P2 ++ [(x, p.2 + 1)], _, rfl, ?_, (ah9.keep b1 t1 hFA.symm hFls).keep b2 t2 hLA.symm hLls, b2 _ _ hljL (b1 _ _ hljF e9l), paired_imp (fun _ _ h => t2.tup (t1.tup h)) p9, b2 _ _ hLF.symm e11, ⟨b9 ++ [xb], ?_, ?_⟩, kin.add hx hm hxk hpm hxs⟩
                  · rw [eH11]
                    exact same_put (same_put sm9 nF0) nL0
                  · rw [upd_same, List.map_append]
                    rfl
                  · rw [List.map_append]
                    exact paired_snoc (paired_imp (fun _ _ h => t2.tup (t1.tup h)) pL9) (t2.tup (t1.tup etx))
              · obtain ⟨P2, y3, rfl, sm9, ah9, e9l, p9, eF9, eL9, kin⟩ := hp
                rw [List.length_map, hprl] at kin
                refine ⟨_, rfl, (k : Int), 1, rfl, rfl, P2, y3, x4, x5, x9, rfl, sm9, ah9, eF9, eL9, ?_⟩
                exact kin.fin ki hpk fun x hxk hxs => (pk.1 p.1 x).mpr ⟨by rw [List.take_length]; exact hxk, hxs⟩
            · rw [decide_eq_false (show ¬ ((k : Int) < (Ps.length : Int)) by omega)]
              refine iteF ⟨.ref Fd, rfl, q H8 Fd Ps sm8 nF0 eF8 ?_⟩
              have e1 : k = Ps.length := by omega
              rw [e1] at ki
              exact ki.done
end
end KH

namespace KM
/-- row_to's first loop -/
structure WInv (r : Rl) (c : Crowd) (goals : List Crowd) (Ps : List (Crowd × Option (Crowd × Nat))) (k : Nat) : Prop where
  inv : RInv r c Ps
  le : k ≤ Ps.length
  cl : ∀ x ∈ (Ps.map (·.1)).take k, x ∉ goals ∧ ∀ y ∈ succs r x, y ∈ Ps.map (·.1)
theorem WInv.start (r : Rl) (c : Crowd) (goals : List Crowd) : WInv r c goals [(c, none)] 0 := ⟨RInv.start r c, Nat.zero_le _, fun x hx => by simp at hx⟩
theorem WInv.lt {r : Rl} {c : Crowd} {goals : List Crowd} {Ps : List (Crowd × Option (Crowd × Nat))} {k : Nat} (h : WInv r c goals Ps k) (hg : ∃ g ∈ goals, Rch r c g) : k < Ps.length := by
  rcases Nat.lt_or_ge k Ps.length with q | q
  · exact q
  · exfalso
    obtain ⟨g, hg, hr⟩ := hg
    have e : (Ps.map (·.1)).take k = Ps.map (·.1) := List.take_of_length_le (by rw [List.length_map]; exact q)
    have hc := h.cl
    rw [e] at hc
    have h0 : c ∈ Ps.map (·.1) := List.mem_map.mpr ⟨(c, none), List.mem_of_getElem? h.inv.hd, rfl⟩
    exact (hc g (hr.within (P := fun x => x ∈ Ps.map (·.1)) h0 fun x hx => (hc x hx).2)).1 hg
/-- in the turn of the k-th, x -/
structure WIn (r : Rl) (c : Crowd) (P0 : List (Crowd × Option (Crowd × Nat))) (x : Crowd) (P2 : List (Crowd × Option (Crowd × Nat))) (i : Nat) : Prop where
  pre : ∃ t, P2 = P0 ++ t
  inv : RInv r c P2
  cl : ∀ s ∈ (stepsL r x).take i, s.2 ∈ P2.map (·.1)
theorem WIn.start {r : Rl} {c x : Crowd} {goals : List Crowd} {Ps : List (Crowd × Option (Crowd × Nat))} {k : Nat} (h : WInv r c goals Ps k) : WIn r c Ps x Ps 0 := ⟨⟨[], by simp⟩, h.inv, fun y hy => by simp at hy⟩
theorem WIn.skip {r : Rl} {c x : Crowd} {P0 P2 : List (Crowd × Option (Crowd × Nat))} {i : Nat} {s : Nat × Crowd} (h : WIn r c P0 x P2 i) (hi : (stepsL r x)[i]? = some s) (hs : s.2 ∈ P2.map (·.1)) : WIn r c P0 x P2 (i + 1) :=
  ⟨h.pre, h.inv, fun z hz => by
    rcases (mem_take_succ hi).mp hz with q | q
    · exact h.cl z q
    · rw [q]; exact hs⟩
theorem WIn.add {r : Rl} {c : Crowd} {P0 P2 : List (Crowd × Option (Crowd × Nat))} {i k : Nat} {s : Nat × Crowd} {p : Crowd × Option (Crowd × Nat)} (h : WIn r c P0 p.1 P2 i) (hk : P0[k]? = some p) (hi : (stepsL r p.1)[i]? = some s) (hs : s.2 ∉ P2.map (·.1)) : WIn r c P0 p.1 (P2 ++ [(s.2, some (p.1, s.1))]) (i + 1) := by
  obtain ⟨t, ht⟩ := h.pre
  have hk2 : P2[k]? = some p := by rw [ht, List.getElem?_append_left (List.getElem?_eq_some_iff.mp hk).1]; exact hk
  refine ⟨⟨t ++ [(s.2, some (p.1, s.1))], by rw [ht, List.append_assoc]⟩, h.inv.add hk2 (List.mem_of_getElem? hi) hs, fun z hz => ?_⟩
  rw [List.map_append, List.mem_append]
  rcases (mem_take_succ hi).mp hz with q | q
  · exact .inl (h.cl z q)
  · rw [q]; exact .inr (by simp)
theorem WIn.fin {r : Rl} {c : Crowd} {goals : List Crowd} {Ps P2 : List (Crowd × Option (Crowd × Nat))} {k : Nat} {p : Crowd × Option (Crowd × Nat)} (g : WInv r c goals Ps k) (hk : Ps[k]? = some p) (hp : p.1 ∉ goals) (h : WIn r c Ps p.1 P2 (stepsL r p.1).length) : WInv r c goals P2 (k + 1) := by
  obtain ⟨t, ht⟩ := h.pre
  have hlt := (List.getElem?_eq_some_iff.mp hk).1
  have hm : P2.map (·.1) = Ps.map (·.1) ++ t.map (·.1) := by rw [ht, List.map_append]
  have hk2 : (P2.map (·.1))[k]? = some p.1 := by
    rw [hm, List.getElem?_append_left (by rw [List.length_map]; exact hlt), List.getElem?_map, hk]
    rfl
  refine ⟨h.inv, by have := (List.getElem?_eq_some_iff.mp hk2).1; rw [List.length_map] at this; exact this, fun z hz => ?_⟩
  rcases (mem_take_succ hk2).mp hz with q | q
  · rw [hm, List.take_append_of_le_length (by rw [List.length_map]; omega)] at q
    obtain ⟨a, b⟩ := g.cl z q
    exact ⟨a, fun y hy => by rw [hm]; exact List.mem_append_left _ (b y hy)⟩
  · subst q
    refine ⟨hp, fun y hy => ?_⟩
    obtain ⟨n, hn⟩ := mem_succs.mp hy
    exact h.cl (n, y) (by rw [List.take_length]; exact hn)
end KM
namespace KM
theorem walk_off {r : Rl} {c : Crowd} {n : Nat} (ns : List Nat) (h : n ∉ canL r c) : walkTo r c (n :: ns) = none := by
  show (match (stepsL r c).lookup n with | some c' => walkTo r c' ns | none => none) = _
  have : (stepsL r c).lookup n = none := by
    rw [List.lookup_eq_none_iff]
    intro p hp
    rw [bne_iff_ne]
    intro e
    obtain ⟨p1, p2⟩ := p
    simp only at e
    subst e
    obtain ⟨m, h1, h2, _⟩ := mem_stepsL.mp hp
    exact h (mem_canL.mpr ⟨m, h1, h2⟩)
  rw [this]
theorem drop_at {α : Type} {l : List α} {i : Nat} {x : α} (h : l[i]? = some x) : l.drop i = x :: l.drop (i + 1) := by
  obtain ⟨h1, h2⟩ := List.getElem?_eq_some_iff.mp h
  rw [← h2]
  exact List.drop_eq_getElem_cons h1
end KM
namespace KM
/-! ### papers -/
structure Pap where
  cs : List Int
  ns : List Nat
  rk : List (Crowd × Int)
/-- how a paper is built -/
structure Pap.Ok (r : Rl) (p : Pap) : Prop where
  cs : Cs r.starts.length p.cs
  ns : p.ns.length ≤ 1000
  rk : p.rk.length ≤ 1000
  rooms : ∀ x ∈ p.rk, x.1.length = r.rooms
structure RkOk (r : Rl) (h : Int) (rk : List (Crowd × Int)) : Prop where
  each : ∀ p ∈ rk, 0 ≤ p.2 ∧ isCrowdB r.rooms p.1 = true ∧ p.1.sum = h
  rise : ∀ (i : Nat) (p q : Crowd × Int), rk[i]? = some p → rk[i + 1]? = some q → p.1 < q.1
def keysOf (rk : List (Crowd × Int)) : List Crowd := rk.map (·.1)
/-- what ask_ways asks of one -/
structure WayOk (r : Rl) (wd : Said) (rk : List (Crowd × Int)) (p : Crowd × Int) : Prop where
  cl : ∀ y ∈ succs r p.1, y ∈ keysOf rk
  zero : p.2 = 0 → said r p.1 ≠ wd
  fall : 0 < p.2 → ∃ y ∈ succs r p.1, ∃ k, (y, k) ∈ rk ∧ k < p.2
structure Valid (r : Rl) (q : Qu) (p : Pap) : Prop where
  ranks : RkOk r p.cs.sum p.rk
  way : ∃ c, walkTo r (begun r p.cs) p.ns = some c ∧ c ∈ keysOf p.rk
  ways : ∀ x ∈ p.rk, WayOk r (truthW (holdsQ q p.cs)) p.rk x
theorem RkOk.lt {r : Rl} {h : Int} {rk : List (Crowd × Int)} (g : RkOk r h rk) : ∀ (j i : Nat) (p q : Crowd × Int), rk[i]? = some p → rk[i + 1 + j]? = some q → p.1 < q.1
  | 0, i, p, q, hp, hq => g.rise i p q hp hq
  | j + 1, i, p, q, hp, hq => by
    have hl := (List.getElem?_eq_some_iff.mp hq).1
    have hm : rk[i + 1 + j]? = some rk[i + 1 + j] := List.getElem?_eq_getElem (by omega)
    exact List.lt_trans (RkOk.lt g j i p _ hp hm) (g.rise (i + 1 + j) _ q hm hq)
theorem RkOk.nd {r : Rl} {h : Int} {rk : List (Crowd × Int)} (g : RkOk r h rk) : (keysOf rk).Nodup := by
  unfold keysOf List.Nodup
  rw [List.pairwise_map, List.pairwise_iff_getElem]
  intro i j hi hj hij e
  have h1 : rk[i]? = some rk[i] := List.getElem?_eq_getElem hi
  have h2 : rk[i + 1 + (j - i - 1)]? = some rk[j] := by
    rw [show i + 1 + (j - i - 1) = j by omega]
    exact List.getElem?_eq_getElem hj
  have := g.lt _ _ _ _ h1 h2
  rw [e] at this
  exact List.lt_irrefl _ this
end KM

namespace KH
open PySem PySem.Spec PyProof.Rows L2 KM
section
variable {P : Program} {w : World} {K : PySem.W.Frag} {mg : Str → Option Value} {base : Heap} {ad : Nat → Addr} {fd : Nat → FuncData}
/-! ### row_to -/
def spRow : Sp := fun vs H Q _ => ∃ (g b l : Addr) (r : Rl) (c : Crowd) (ks goals : List Crowd) (gps : List (List Int × V)), vs = [.ref g, .ref b, .ref l] ∧ r.Ok ∧ GraphAt H g r ks ∧ (∀ x ∈ ks, ∀ y ∈ succs r x, y ∈ ks) ∧ ks.length ≤ 130 ∧ TI H b c ∧ c ∈ ks ∧ H l = some (.dT (asg gps)) ∧ gps.map (·.1) = goals ∧ (∃ x ∈ goals, Rch r c x) ∧
  ∀ H' t nl cb ns x, Same H H' → H t = none → H' t = some (.tup [.ref nl, .ref cb]) → H' nl = some (.lst (ns.map vn)) → TI H' cb x → walkTo r c ns = some x → x ∈ goals → ns.length ≤ 130 → Q (.ref t) H'
def StV (H : Hp) (p : List Int × V) (P : Crowd × Option (Crowd × Nat)) : Prop := p.1 = P.1 ∧ match P.2 with
  | none => p.2 = .non
  | some q => ∃ t b, p.2 = .ref t ∧ H t = some (.tup [.ref b, vn q.2]) ∧ TI H b q.1
theorem StV.te {H H' : Hp} {p : List Int × V} {P : Crowd × Option (Crowd × Nat)} (t : Ts H H') (h : StV H p P) : StV H' p P := by
  obtain ⟨h1, h2⟩ := h
  refine ⟨h1, ?_⟩
  obtain ⟨P1, P2⟩ := P
  cases P2 with
  | none => exact h2
  | some q =>
    obtain ⟨u, b, e1, e2, e3⟩ := h2
    exact ⟨u, b, e1, t.tup e2, t.tup e3⟩
theorem StV.keys {H : Hp} : ∀ {ps : List (List Int × V)} {Ps : List (Crowd × Option (Crowd × Nat))}, Paired (StV H) ps Ps → ps.map (·.1) = Ps.map (·.1)
  | _, _, .nil => rfl
  | _, _, .cons h t => by rw [List.map_cons, List.map_cons, StV.keys t, h.1]
structure RSt (H0 : Hp) (g b l S L : Addr) (ps : List (List Int × V)) (Ps : List (Crowd × Option (Crowd × Nat))) (H : Hp) : Prop where
  same : Same H0 H
  eS : H S = some (.dT (asg ps))
  pS : Paired (StV H) ps Ps
  eL : CrowdsAt H L (Ps.map (·.1))
theorem ok21 (T : Tx K mg ad fd) : FnOk P w K mg base CX0 1 (ad 21) (fd 21) P21 spRow := by
  have nd := sc21.nd
  refine T.f_row_to.ok sc21 (fun vs H Q E h => ?_) (fun cdv A outer s H vs Q E hr h => ?_)
  · obtain ⟨g, b, l, r, c, ks, goals, gps, rfl, _⟩ := h
    rfl
  · obtain ⟨g, b, l, r, c, ks, goals, gps, rfl, ho, hG, hcl, h130, hb, hck, eg, kg, hgo, q⟩ := h
    refine ⟨_, PSs.nox (pss_cons (ps_set (i := 3) nd rfl (Or.inl rfl) (pe_dispT (hu_of hr) (pv 1) pe_non))
  (pss_cons (ps_set (i := 4) nd rfl (Or.inl rfl) (pe_lst (pa_cons (pv 1) pa_nil)))
  (pss_cons (ps_set (i := 5) nd rfl (Or.inl rfl) pe_int)
  (pss_cons (ps_while PassesOwn.never (pt_cmp (pc_dnotin (hu_of hr) (pe_ix (KW.ixL K) (pv 4) (pv 5) (fun _ _ => rfl)) (pv 2)))
    (pss_cons (ps_for PassesOwn.never rfl (pi_list (pe_dget (hu_of hr) (pv 0) (pe_ix (KW.ixL K) (pv 4) (pv 5) (fun _ _ => rfl)) (fun _ _ => rfl))) (pg_tup rfl (pgs_cons (pg_name (i := 6) nd rfl (Or.inl rfl)) (pgs_cons (pg_name (i := 7) nd rfl (Or.inl rfl)) pgs_nil)))
    (pss_one (ps_if (pt_cmp (pc_dnotin (hu_of hr) (pv 7) (pv 3)))
    (pss_cons (ps_dput (hu_of hr) (pv 3) (pv 7) (pe_tup (pa_cons (pe_ix (KW.ixL K) (pv 4) (pv 5) (fun _ _ => rfl)) (pa_cons (pv 6) pa_nil))) rfl)
  (pss_one (ps_expr (pe_bm PySem.F.plainAttrs_list PySem.F.slot_list_append PySem.F.type_list_append mt_append (pv 4) (pa_cons (pv 7) pa_nil)))))
    pss_nil)))
  (pss_one (ps_set (i := 5) nd rfl (Or.inl rfl) (pe_op op_add (pv 5) pe_int)))))
  (pss_cons (ps_set (i := 8) nd rfl (Or.inl rfl) (pe_lst pa_nil))
  (pss_cons (ps_set (i := 9) nd rfl (Or.inl rfl) (pe_ix (KW.ixL K) (pv 4) (pv 5) (fun _ _ => rfl)))
  (pss_cons (ps_while PassesOwn.never (pt_cmpR op_notN (pe_dget (hu_of hr) (pv 3) (pv 9) (fun _ _ => rfl)) pe_non (nomark _))
    (pss_cons (ps_asg (pe_dget (hu_of hr) (pv 3) (pv 9) (fun _ _ => rfl)) (pg_tup rfl (pgs_cons (pg_name (i := 9) nd rfl (Or.inl rfl)) (pgs_cons (pg_name (i := 6) nd rfl (Or.inl rfl)) pgs_nil))))
  (pss_one (ps_expr (pe_bm PySem.F.plainAttrs_list PySem.F.slot_list_append PySem.F.type_list_append mt_append (pv 8) (pa_cons (pv 6) pa_nil))))))
  (pss_one (ps_ret (pe_tup (pa_cons (pe_revL (pv 8)) (pa_cons (pe_ix (KW.ixL K) (pv 4) (pv 5) (fun _ _ => rfl)) pa_nil)))))))))))), ?_⟩
    intro S nS
    refine ⟨.ref b, rfl, upd_same, ck c, b, rfl, tiK (same_new nS _ _ hb), ?_⟩
    rw [upd_upd]
    have s1 : Same H (upd H S (.dT [(ck c, .non)])) := same_new nS
    refine ⟨.ref b, rfl, by show 1 ≤ sizeLine; decide, fun L nL => ?_⟩
    have nL0 := same_free s1 nL
    have hLS : L ≠ S := fun e => by rw [e, upd_same] at nL; cases nL
    have s2 := same_put (o := .lst [.ref b]) s1 nL0
    obtain ⟨gp, hgp1, hgp2, hgp3, hgp4⟩ := hG
    refine ⟨fun m σ H1 => ∃ ps Ps k x6 x7, m = 200 - k ∧ σ = [some (.ref g), some (.ref b), some (.ref l), some (.ref S), some (.ref L), some (.int (k : Nat)), x6, x7, none, none] ∧ RSt H g b l S L ps Ps H1 ∧ WInv r c goals Ps k,
      ⟨200, [(c, .non)], [(c, none)], 0, none, none, rfl, rfl, ⟨s2, ?_, .cons ⟨rfl, rfl⟩ .nil, ⟨[b], upd_same, .cons (s2 _ _ hb) .nil⟩⟩, WInv.start r c goals⟩, fun m σ H1 hW => ?_⟩
    · rw [upd_ne hLS.symm, upd_same]
      rfl
    · obtain ⟨ps, Ps, k, x6, x7, rfl, rfl, st, wi⟩ := hW
      have hlt := wi.lt hgo
      have few : Ps.length ≤ 130 := by
        have := nodup_len (Ps.map (·.1)) ks wi.inv.nd fun x hx => (wi.inv.rc hx).within (P := fun x => x ∈ ks) hck hcl
        rw [List.length_map] at this
        omega
      obtain ⟨bs, hbs, eL', pL⟩ := st.eL.len
      obtain ⟨p, hp⟩ : ∃ p, Ps[k]? = some p := ⟨Ps[k], List.getElem?_eq_getElem hlt⟩
      have hpk : (Ps.map (·.1))[k]? = some p.1 := by rw [List.getElem?_map, hp]; rfl
      obtain ⟨xb, hxb, etx⟩ := paired_at pL hpk
      have hxr := wi.inv.reach k p hp
      have hxk : p.1 ∈ ks := hxr.within (P := fun x => x ∈ ks) hck hcl
      have eg1 := st.same _ _ eg
      refine ⟨.ref L, rfl, _, rfl, L, _, _, .ref xb, rfl, rfl, SqL.of eL', at_nat (map_at hxb), .ref l, rfl, l, _, rfl, dget_c eg1 etx, _, rfl, ?_⟩
      rw [valV_some_iff, kg]
      by_cases hm : p.1 ∈ goals
      · rw [decide_eq_true hm]
        refine iteF ?_
        refine ⟨Nat.zero_le _, fun D nD => ?_⟩
        have nD0 := same_free st.same nD
        have hDL : D ≠ L := fun e => by rw [e, eL'] at nD; cases nD
        have hDS : D ≠ S := fun e => by rw [e, st.eS] at nD; cases nD
        have s3 : Same H1 (upd H1 D (.lst [])) := same_new nD
        refine ⟨.ref L, rfl, _, rfl, L, _, _, .ref xb, rfl, rfl, SqL.of (s3 _ _ eL'), at_nat (map_at hxb), ?_⟩
        refine ⟨fun m σ H2 => ∃ j pj hb' nums x6, j = m ∧ Ps[j]? = some pj ∧ nums.length + j ≤ k ∧ walkTo r pj.1 nums.reverse = some p.1 ∧ TI H2 hb' pj.1 ∧ H2 D = some (.lst (nums.map vn)) ∧ Same H H2 ∧ Ts H1 H2 ∧ SameB D (upd H1 D (.lst [])) H2 ∧ σ = [some (.ref g), some (.ref b), some (.ref l), some (.ref S), some (.ref L), some (.int (k : Nat)), x6, x7, some (.ref D), some (.ref hb')],
          ⟨k, k, p, xb, [], x6, rfl, hp, by simp, rfl, s3 _ _ etx, upd_same, same_put st.same nD0, tsS s3, SameB.of (fun _ _ e => e), rfl⟩, fun m σ H2 hW => ?_⟩
        obtain ⟨j, pj, hb', nums, y6, rfl, hpj, hnj, hwk, etj, eD, sm2, t2, b2, rfl⟩ := hW
        have eS2 : H2 S = some (.dT (asg ps)) := b2 _ _ hDS.symm (s3 _ _ st.eS)
        have eL2 : H2 L = some (.lst (bs.map V.ref)) := b2 _ _ hDL.symm (s3 _ _ eL')
        have pS2 : Paired (StV H2) ps Ps := paired_imp (fun _ _ h => h.te t2) st.pS
        obtain ⟨pv, hpv, hpv1, hpv2⟩ := paired_at pS2 hpj
        have kS := StV.keys pS2
        have ndS : (ps.map (·.1)).Nodup := by rw [kS]; exact wi.inv.nd
        have hval : valV ps pj.1 = some pv.2 := by
          rw [← hpv1]
          exact valV_mem ndS (List.mem_of_getElem? hpv)
        have hget : DGet H2 S (.ref hb') (some pv.2) := by rw [← hval]; exact dget_c eS2 etj
        refine ⟨.ref S, rfl, .ref hb', rfl, S, pv.2, rfl, hget, rfl, ?_⟩
        obtain ⟨pj1, pj2⟩ := pj
        cases pj2 with
        | none =>
          rw [show pv.2 = .non from hpv2]
          refine ⟨false, rfl, iteF ?_⟩
          have hj0 : j = 0 := by
            rcases Nat.eq_zero_or_pos j with z | z
            · exact z
            · obtain ⟨i, qi, n, _, _, hpar, _⟩ := wi.inv.par j _ hpj z
              cases hpar
          subst hj0
          rw [wi.inv.hd] at hpj
          have e0 := (Prod.mk.inj (Option.some.inj hpj)).1
          subst e0
          refine ⟨.ref D, rfl, D, _, rfl, SqL.of eD, fun R nR => ?_⟩
          have s4 : Same H2 (upd H2 R (.lst (nums.map vn).reverse)) := same_new nR
          refine ⟨.ref L, rfl, _, rfl, L, _, _, .ref xb, rfl, rfl, SqL.of (s4 _ _ eL2), at_nat (map_at hxb), by show 2 ≤ sizeLine; decide, fun t nt => ?_⟩
          have nt0 : H2 t = none := same_free s4 nt
          have s5 := same_put (o := .tup [.ref R, .ref xb]) s4 nt0
          have htR : R ≠ t := fun e => by rw [← e, upd_same] at nt; cases nt
          have few2 : nums.length ≤ 130 := by omega
          exact q _ t R xb nums.reverse p.1 (sm2.trans s5) (same_free sm2 nt0) upd_same (by rw [upd_ne htR, upd_same, List.map_reverse]) ((tsS s5).tup (t2.tup etx)) hwk hm (by rw [List.length_reverse]; exact few2)
        | some par =>
          obtain ⟨t, tb, e1, e2, e3⟩ := hpv2
          rw [e1] at hget ⊢
          have hj0 : 0 < j := by
            rcases Nat.eq_zero_or_pos j with z | z
            · subst z
              rw [wi.inv.hd] at hpj
              cases hpj
            · exact z
          obtain ⟨i, qi, n, hij, hqi, hpar, hstp⟩ := wi.inv.par j _ hpj hj0
          simp only [Option.some.injEq] at hpar
          subst hpar
          refine ⟨true, rfl, iteT ⟨fun σ' H' => ∃ (nums : List Nat) (x6 : Option V), nums.length + i ≤ k ∧ walkTo r qi.1 nums.reverse = some p.1 ∧ TI H' tb qi.1 ∧ H' D = some (.lst (nums.map vn)) ∧ Same H H' ∧ Ts H1 H' ∧ SameB D (upd H1 D (.lst [])) H' ∧ σ' = [some (.ref g), some (.ref b), some (.ref l), some (.ref S), some (.ref L), some (.int (k : Nat)), x6, x7, some (.ref D), some (.ref tb)], fun σ' H' hN => ?_, ?_⟩⟩
          · obtain ⟨nums', z6, a1, a2, a3, a4, a5, a6, a7, rfl⟩ := hN
            exact ⟨i, hij, i, qi, tb, nums', z6, rfl, hqi, a1, a2, a3, a4, a5, a6, a7, rfl⟩
          refine ⟨.ref S, rfl, .ref hb', rfl, S, .ref t, rfl, hget, ?_⟩
          refine ⟨t, _, rfl, SqT.of e2, rfl, _, _, rfl, _, _, rfl, rfl, ?_⟩
          refine ⟨.ref D, rfl, .inl ⟨rfl, _, SqL.of eD⟩, vn n, rfl, D, _, _, rfl, rfl, eD, small (by rw [List.length_map]; omega), ?_⟩
          have t3 : Ts H2 (upd H2 D (.lst (nums.map vn ++ [vn n]))) := Ts.put eD rfl
          have b3 : SameB D H2 (upd H2 D (.lst (nums.map vn ++ [vn n]))) := SameB.put
          refine ⟨nums ++ [n], _, by rw [List.length_append]; simp; omega, ?_, t3.tup e3, ?_, same_put sm2 nD0, t2.trans t3, b2.trans b3, rfl⟩
          · rw [List.reverse_append]
            show walkTo r qi.1 (n :: nums.reverse) = _
            rw [walk_cons _ hstp]
            exact hwk
          · rw [upd_same, List.map_append]
            rfl
      · rw [decide_eq_false hm]
        refine iteT ⟨fun σ' H' => ∃ ps Ps x6 x7, σ' = [some (.ref g), some (.ref b), some (.ref l), some (.ref S), some (.ref L), some (.int ((k + 1 : Nat) : Int)), x6, x7, none, none] ∧ RSt H g b l S L ps Ps H' ∧ WInv r c goals Ps (k + 1), fun σ' H' hN => ?_, ?_⟩
        · obtain ⟨ps', Ps', y6, y7, e1, e2, e3⟩ := hN
          have := e3.lt hgo
          have f2 : Ps'.length ≤ 130 := by
            have := nodup_len (Ps'.map (·.1)) ks e3.inv.nd fun x hx => (e3.inv.rc hx).within (P := fun x => x ∈ ks) hck hcl
            rw [List.length_map] at this
            omega
          exact ⟨200 - (k + 1), by omega, ps', Ps', k + 1, y6, y7, rfl, e1, e2, e3⟩
        have gb1 : GB H1 r noL gp := hgp4.same st.same
        have eg2 := st.same _ _ hgp1
        obtain ⟨j, hj⟩ := List.mem_iff_getElem?.mp hxk
        obtain ⟨gpj, hgpj, hkj⟩ : ∃ q, gp[j]? = some q ∧ q.1 = p.1 := by
          rw [← hgp2, List.getElem?_map] at hj
          cases e : gp[j]? with
          | none => rw [e] at hj; cases hj
          | some q => rw [e] at hj; exact ⟨q, rfl, Option.some.inj hj⟩
        obtain ⟨gl, egl, ts, egl0, pts0⟩ := graph_step hgp4 (c := gpj.1) (v := gpj.2) hgpj
        have hglL : gl ≠ L := fun z => by rw [z, nL0] at egl0; cases egl0
        have egl2 := st.same _ _ egl0
        have pts : Paired (StepAt H1) ts (stepsL r gpj.1) := paired_imp (fun _ _ h => h.te (tsS st.same)) pts0
        rw [hkj] at pts
        have hvg : valV gp p.1 = some (.ref gl) := by
          rw [← egl, ← hkj]
          exact valV_mem (by rw [hgp2]; exact hgp3) (List.mem_of_getElem? hgpj)
        refine ⟨.ref g, rfl, .ref L, rfl, _, rfl, L, _, _, .ref xb, rfl, rfl, SqL.of eL', at_nat (map_at hxb), g, .ref gl, rfl, ?_, gl, rfl, ⟨_, SqL.of egl2⟩, ?_⟩
        · rw [← hvg]
          exact dget_c eg2 etx
        refine for_it (walk_list (xs := ts.map V.ref)) (fun i σ H2 => ∃ ps2 P2 x6 x7, σ = [some (.ref g), some (.ref b), some (.ref l), some (.ref S), some (.ref L), some (.int (k : Nat)), x6, x7, none, none] ∧ RSt H g b l S L ps2 P2 H2 ∧ H2 gl = some (.lst (ts.map V.ref)) ∧ Paired (StepAt H2) ts (stepsL r p.1) ∧ WIn r c Ps p.1 P2 i)
          ⟨ps, Ps, x6, x7, rfl, st, egl2, pts, WIn.start wi⟩ (fun i σ H2 _ hp => ?_) (fun i y σ H2 H3 hi hp2 hy => ?_) (fun σ H2 hp2 => ?_)
        · obtain ⟨_, _, _, _, _, _, e, _⟩ := hp
          exact SqL.of e
        · obtain ⟨ps2, P2, y6, y7, rfl, st2, fgl, fpt, win⟩ := hp2
          obtain ⟨rfl, hy⟩ := hy
          obtain ⟨t, ht, rfl⟩ := map_at' hy
          obtain ⟨s, hs, sb, et, esb⟩ := paired_at' fpt ht
          refine ⟨t, _, rfl, SqT.of et, rfl, _, _, rfl, _, _, rfl, rfl, ?_⟩
          refine ⟨.ref sb, rfl, .ref S, rfl, S, _, rfl, dget_c st2.eS esb, _, rfl, ?_⟩
          have k2 := StV.keys st2.pS
          rw [valV_some_iff, k2]
          by_cases hm2 : s.2 ∈ P2.map (·.1)
          · rw [decide_eq_true hm2]
            exact iteF ⟨ps2, P2, _, _, rfl, st2, fgl, fpt, win.skip hs hm2⟩
          · rw [decide_eq_false hm2]
            obtain ⟨b2, hb2, eL2, pL2⟩ := st2.eL.len
            obtain ⟨tt, htt⟩ := win.pre
            have hp2' : P2[k]? = some p := by rw [htt, List.getElem?_append_left hlt]; exact hp
            have hpk2 : (P2.map (·.1))[k]? = some p.1 := by rw [List.getElem?_map, hp2']; rfl
            obtain ⟨xb2, hxb2, etx2⟩ := paired_at pL2 hpk2
            have few2 : P2.length ≤ 130 := by
              have := nodup_len (P2.map (·.1)) ks win.inv.nd fun x hx => (win.inv.rc hx).within (P := fun x => x ∈ ks) hck hcl
              rw [List.length_map] at this
              omega
            have lps : ps2.length = P2.length := Paired.length st2.pS
            refine iteT ⟨.ref L, rfl, _, rfl, L, _, _, .ref xb2, rfl, rfl, SqL.of eL2, at_nat (map_at hxb2), vn s.1, rfl, by show 2 ≤ sizeLine; decide, fun tp ntp => ?_⟩
            have s6 : Same H3 (upd H3 tp (.tup [.ref xb2, vn s.1])) := same_new ntp
            obtain ⟨H4, eH4⟩ : ∃ H4, H4 = upd H3 tp (.tup [.ref xb2, vn s.1]) := ⟨_, rfl⟩
            have etp : H4 tp = some (.tup [.ref xb2, vn s.1]) := by rw [eH4]; exact upd_same
            rw [← eH4] at s6 ⊢
            have eS4 : H4 S = some (.dT (asg ps2)) := s6 _ _ st2.eS
            refine ⟨.ref S, rfl, .ref sb, rfl, S, _, rfl, dput_c eS4 (s6 _ _ esb) (small (by omega)), ?_⟩
            rw [putK_new' _ (by rw [k2]; exact hm2)]
            obtain ⟨H5, eH5⟩ : ∃ H5, H5 = upd H4 S (.dT (asg (ps2 ++ [(s.2, .ref tp)]))) := ⟨_, rfl⟩
            have t5 : Ts H4 H5 := by rw [eH5]; exact Ts.put eS4 rfl
            have b5 : SameB S H4 H5 := by rw [eH5]; exact SameB.put
            have e5 : H5 S = some (.dT (asg (ps2 ++ [(s.2, .ref tp)]))) := by rw [eH5]; exact upd_same
            have sm5 : Same H H5 := by rw [eH5]; exact same_put (st2.same.trans s6) nS
            rw [← eH5]
            have eL5 : H5 L = some (.lst (b2.map V.ref)) := b5 _ _ hLS (s6 _ _ eL2)
            have t6 : Ts H5 (upd H5 L (.lst (b2.map V.ref ++ [V.ref sb]))) := Ts.put eL5 rfl
            have b6 : SameB L H5 (upd H5 L (.lst (b2.map V.ref ++ [V.ref sb]))) := SameB.put
            have t36 := ((tsS s6).trans t5).trans t6
            have hglS : gl ≠ S := fun z => by rw [z, st2.eS] at fgl; cases fgl
            refine ⟨.ref L, rfl, .inl ⟨rfl, _, SqL.of eL5⟩, .ref sb, rfl, L, _, _, rfl, rfl, eL5, small (by rw [List.length_map, hb2, List.length_map]; omega), ?_⟩
            refine ⟨ps2 ++ [(s.2, .ref tp)], P2 ++ [(s.2, some (p.1, s.1))], _, _, rfl, ⟨same_put sm5 nL0, b6 _ _ hLS.symm e5, paired_snoc (paired_imp (fun _ _ h => h.te t36) st2.pS) ⟨rfl, tp, xb2, rfl, t6.tup (t5.tup etp), t36.tup etx2⟩, b2 ++ [sb], ?_, ?_⟩, b6 _ _ hglL (b5 _ _ hglS (s6 _ _ fgl)), paired_imp (fun _ _ h => h.te t36) fpt, win.add hp hs hm2⟩
            · rw [upd_same, List.map_append]
              rfl
            · rw [List.map_append]
              exact paired_snoc (paired_imp (fun _ _ h => t36.tup h) pL2) (t36.tup esb)
        · obtain ⟨ps2, P2, y6, y7, rfl, st2, fgl, fpt, win⟩ := hp2
          have hl : (ts.map V.ref).length = (stepsL r p.1).length := by rw [List.length_map]; exact Paired.length pts
          rw [hl] at win
          refine ⟨_, rfl, (k : Int), 1, rfl, rfl, ps2, P2, y6, y7, rfl, st2, ?_⟩
          exact WIn.fin wi hp hm win
end
end KH

namespace KH
open PySem PySem.Spec PyProof.Rows L2 KM
section
variable {P : Program} {w : World} {K : PySem.W.Frag} {mg : Str → Option Value} {base : Heap} {ad : Nat → Addr} {fd : Nat → FuncData}
theorem Said.tx_inj {a b : Said} (h : a.tx = b.tx) : a = b := by
  revert h
  cases a <;> cases b <;> decide
theorem strE (a b : Said) : (Str.ofString a.tx = Str.ofString b.tx) ↔ a = b := by
  cases a <;> cases b <;> decide +kernel
theorem decS (a b : Said) : decide (V.str (Str.ofString a.tx) = V.str (Str.ofString b.tx)) = decide (a = b) := by
  cases a <;> cases b <;> decide +kernel
theorem unl {H3 H4 : Hp} {d D : Addr} {u : HO} {od : Obj} {ys : List V} {cs : List Crowd} (s4 : Same (upd H3 d (.frz od u)) H4) (hu : isT (.frz od u) = false) (nD : upd H3 d (.frz od u) D = none) (eD : H4 D = some (.lst ys)) (pr : Paired (fun a y => ∃ q, y = V.ref q ∧ TI H4 q a) cs ys) : CrowdsAt (upd H4 d u) D cs := by
  obtain ⟨ts, rfl, pts⟩ := refs_of (S := fun t c => TI H4 t c) pr
  have hne : D ≠ d := fun z => by rw [z, upd_same] at nD; cases nD
  have t : Ts H4 (upd H4 d u) := Ts.put (s4 _ _ upd_same) hu
  exact ⟨ts, by rw [upd_ne hne]; exact eD, paired_imp (fun _ _ h => t.tup h) pts⟩
/-- which of the crowds err -/
def wrongL (r : Rl) (wd : Said) (ks : List Crowd) : List Crowd := ks.filter fun x => decide (¬ said r x = wd)
/-- those not among the keys -/
def notIn (ks xs : List Crowd) : List Crowd := ks.filter fun x => !decide (x ∈ xs)
/-! ### gone_through -/
def spGone : Sp := fun vs H Q _ => ∃ (a b e : Addr) (r : Rl) (qq : Qu) (cs : List Int) (lim : Int), vs = [.ref a, .ref b, .ref e, .int lim] ∧ IsRule H a r ∧ r.Ok ∧ QAt H b qq ∧ qq.Ok cs.length ∧ qq.dep < 2 ∧ TI H e cs ∧ Cs r.starts.length cs ∧ 130 ≤ lim ∧
  ∀ H' t d wr st ks Pw Ps, Same H H' → H t = none → H' t = some (.tup [.ref d, .ref wr, .ref st]) → GraphAt H' d r ks → GInv r (begun r cs) ks ks.length → H' wr = some (.dT (asg (intD Pw))) → H' st = some (.dT (asg (intD Ps))) →
    Ranks r ks (wrongL r (truthW (holdsQ qq cs)) ks) Pw → Ranks r ks (notIn ks (Pw.map (·.1))) Ps → Q (.ref t) H'
theorem ok28 (T : Tx K mg ad fd) : FnOk P w K mg base CX0 6 (ad 28) (fd 28) P28 spGone := by
  have nd := sc28.nd
  have G12 := ok12 (P := P) (w := w) (base := base) T
  have G18 := ok18 (P := P) (w := w) (base := base) T
  have G20 := ok20 (P := P) (w := w) (base := base) T
  have G22 := ok22 (P := P) (w := w) (base := base) T
  have G27 := ok27 (P := P) (w := w) (base := base) T
  refine T.f_gone_through.ok sc28 (fun vs H Q E h => ?_) (fun cdv A outer s H vs Q E hr h => ?_)
  · obtain ⟨a, b, e, r, qq, cs, lim, rfl, _⟩ := h
    rfl
  · obtain ⟨a, b, e, r, qq, cs, lim, rfl, hR, ho, hq, hqo, hqd, he, hcs, hlim, q⟩ := h
    refine ⟨_, PSs.nox (pss_cons (ps_set (i := 4) nd rfl (Or.inl rfl) (pe_call G20 (hr.mono (by decide)) (by rfl) T.g_graph_of T.f_graph_of.kp T.b_graph_of .nil pass0 (pa_cons (pv 0) (pa_cons (pe_call G12 (hr.mono (by decide)) (by rfl) T.g_begun T.f_begun.kp T.b_begun .nil pass0 (pa_cons (pv 0) (pa_cons (pv 2) pa_nil))) (pa_cons (pv 3) pa_nil)))))
  (pss_cons (ps_set (i := 5) nd rfl (Or.inr rfl) (pe_call G27 (hr.mono (by decide)) (by rfl) T.g_truth_word T.f_truth_word.kp T.b_truth_word .nil pass0 (pa_cons (pv 1) (pa_cons (pv 2) pa_nil))))
  (pss_cons (ps_set (i := 6) nd rfl (Or.inr rfl) (pe_call G22 (hr.mono (by decide)) (by rfl) T.g_ranks_to T.f_ranks_to.kp T.b_ranks_to .nil pass0 (pa_cons (pv 4) (pa_cons (pe_lock (pe_lc (own := [("crowd", 8)]) (g := (gName 8)) (by rfl) nd (pi_keys (pv 4)) (blkOk_by (N := N28) (sc := defScope (topS 28)) (by decide +kernel)) (fun _ _ _ _ _ => pg_name (i := 8) nd rfl (Or.inl rfl)) (fun _ _ _ _ _ => pts_one (pt_cmpR op_ne (pe_call G18 (hr.mono (by decide)) (by rfl) T.g_said T.f_said.kp T.b_said .nil pass0 (pa_cons (pv 0) (pa_cons (pv 8) pa_nil))) (pv 5) (nomark _))) (fun _ _ _ _ _ => (pv 8)))) pa_nil))))
  (pss_cons (ps_set (i := 7) nd rfl (Or.inl rfl) (pe_call G22 (hr.mono (by decide)) (by rfl) T.g_ranks_to T.f_ranks_to.kp T.b_ranks_to .nil pass0 (pa_cons (pv 4) (pa_cons (pe_lock (pe_lc (own := [("crowd", 8)]) (g := (gName 8)) (by rfl) nd (pi_keys (pv 4)) (blkOk_by (N := N28) (sc := defScope (topS 28)) (by decide +kernel)) (fun _ _ _ _ _ => pg_name (i := 8) nd rfl (Or.inl rfl)) (fun _ _ _ _ _ => pts_one (pt_cmp (pc_dnotin (hu_of hr) (pv 8) (pv 6)))) (fun _ _ _ _ _ => (pv 8)))) pa_nil))))
  (pss_one (ps_ret (pe_tup (pa_cons (pv 4) (pa_cons (pv 6) (pa_cons (pv 7) pa_nil)))))))))), ?_⟩
    have hbo := begun_ok ho hcs
    refine ⟨.ref a, rfl, .ref a, rfl, .ref e, rfl, a, e, r, cs, rfl, hR, ho, he, hcs.len, fun H1 p s1 np ep => ⟨.int lim, rfl, a, p, r, begun r cs, cs.sum, lim, rfl, hR.te (tsS s1), ho, ep, hbo, hcs.sum4, hlim, fun H2 d ks s2 ndd hG inv => ?_⟩⟩
    have s02 := s1.trans s2
    have few := inv.few ho hbo hcs.sum4
    refine ⟨.ref b, rfl, .ref e, rfl, b, e, qq, cs, rfl, hq.te (tsS s02), hqo, (tsS s02).tup he, hqd, fun H3 s3 => ?_⟩
    have s03 := s02.trans s3
    have hG3 := hG.same s3
    obtain ⟨gp, e1, e2, e3, e4⟩ := hG3
    have hks : ∀ x ∈ ks, ∀ y ∈ succs r x, y ∈ ks := fun x hx y hy => (inv.done y).mpr (.step ((inv.done x).mp hx) hy)
    have hlgp : (asg gp).length = ks.length := by rw [len_asg, ← e2, List.length_map]
    refine ⟨.ref d, rfl, d, _, e1, True.intro, fun od => ?_⟩
    have sl : SameB d H3 (upd H3 d (.frz od (.dT (asg gp)))) := SameB.put
    have tl : Ts H3 (upd H3 d (.frz od (.dT (asg gp)))) := Ts.put e1 rfl
    refine ⟨.ref d, rfl, d, od, rfl, .inr ⟨_, upd_same, fun D nD => lc_same walk_keysT ks hlgp.symm (by rw [hlgp]; omega) (fun x => decide (¬ said r x = truthW (holdsQ qq cs))) (fun x y H => ∃ q, y = .ref q ∧ TI H q x) nD (fun _ _ _ _ t h => by obtain ⟨u, h1, h2⟩ := h; exact ⟨u, h1, t.tup h2⟩) (fun H4 s4 => s4 _ _ upd_same) (fun i x y H4 H5 KY KN hi s4 hy ky kn => ?_) (fun H4 ys s4 eD pr => ?_)⟩⟩
    · obtain ⟨rfl, k, v, qb, hk, rfl, eq⟩ := hy
      obtain ⟨c', hc', etc⟩ := key_ti hk eq
      have := map_fst_at e2 hc'
      rw [hi] at this
      have := Option.some.inj this
      subst this
      have s4' := (tsS s4)
      refine ⟨rfl, .ref a, rfl, .ref qb, rfl, a, qb, r, x, rfl, hR.te (((tsS s03).trans tl).trans s4'), ho, etc, (reach_ok ho hbo ((inv.done x).mp (List.mem_of_getElem? hi))).len, fun H6 s6 => ⟨_, rfl, rfl, _, rfl, ?_⟩⟩
      rw [decS]
      cases hd : decide (said r x = truthW (holdsQ qq cs)) with
      | true => exact kn _ (by simpa using hd) s6
      | false => exact iteT ⟨_, rfl, ky _ _ (by simpa using hd) s6 ⟨qb, rfl, s6 _ _ etc⟩⟩
    · have su : Same H3 (upd H4 d (.dT (asg gp))) := same_unlock e1 s4
      have cD := unl s4 rfl nD eD pr
      have hGu : GraphAt (upd H4 d (.dT (asg gp))) d r ks := hG.same (s3.trans su)
      refine ⟨s4 _ _ upd_same, d, D, r, ks, wrongL r (truthW (holdsQ qq cs)) ks, rfl, ho, hGu, hks, few, cD, e3.sublist List.filter_sublist, fun x hx => (List.mem_filter.mp hx).1, fun H5 wr Pw s5 nwr eW rkW => ?_⟩
      have hG5 := hGu.same s5
      obtain ⟨gp5, f1, f2, f3, f4⟩ := hG5
      have hlgp5 : (asg gp5).length = ks.length := by rw [len_asg, ← f2, List.length_map]
      have hwd : wr ≠ d := fun z => by rw [z, upd_same] at nwr; cases nwr
      refine ⟨.ref d, rfl, d, _, f1, True.intro, fun od5 => ?_⟩
      have tl5 : Ts H5 (upd H5 d (.frz od5 (.dT (asg gp5)))) := Ts.put f1 rfl
      have eW5 : (upd H5 d (.frz od5 (.dT (asg gp5)))) wr = some (.dT (asg (intD Pw))) := by rw [upd_ne hwd]; exact eW
      refine ⟨.ref d, rfl, d, od5, rfl, .inr ⟨_, upd_same, fun D5 nD5 => lc_same walk_keysT ks hlgp5.symm (by rw [hlgp5]; omega) (fun x => !decide (x ∈ Pw.map (·.1))) (fun x y H => ∃ q, y = .ref q ∧ TI H q x) nD5 (fun _ _ _ _ t h => by obtain ⟨u, h1, h2⟩ := h; exact ⟨u, h1, t.tup h2⟩) (fun H6 s6 => s6 _ _ upd_same) (fun i x y H6 H7 KY KN hi s6 hy ky kn => ?_) (fun H6 ys5 s6 eD5 pr5 => ?_)⟩⟩
      · obtain ⟨rfl, k, v, qb, hk, rfl, eq⟩ := hy
        obtain ⟨c', hc', etc⟩ := key_ti hk eq
        have := map_fst_at f2 hc'
        rw [hi] at this
        have := Option.some.inj this
        subst this
        refine ⟨rfl, .ref qb, rfl, .ref wr, rfl, wr, _, rfl, dget_c (s6 _ _ eW5) etc, _, rfl, ?_⟩
        rw [valV_some_iff, intD_keys]
        cases hd : decide (x ∈ Pw.map (·.1)) with
        | true => exact kn _ (by rw [hd]; rfl) (fun _ _ e => e)
        | false => exact iteT ⟨_, rfl, ky _ _ (by rw [hd]; rfl) (fun _ _ e => e) ⟨qb, rfl, etc⟩⟩
      · have su5 : Same H5 (upd H6 d (.dT (asg gp5))) := same_unlock f1 s6
        have cD5 : CrowdsAt (upd H6 d (.dT (asg gp5))) D5 (notIn ks (Pw.map (·.1))) := unl s6 rfl nD5 eD5 pr5
        have hGu5 : GraphAt (upd H6 d (.dT (asg gp5))) d r ks := hGu.same (s5.trans su5)
        refine ⟨s6 _ _ upd_same, d, D5, r, ks, _, rfl, ho, hGu5, hks, few, cD5, e3.sublist List.filter_sublist, fun x hx => (List.mem_filter.mp hx).1, fun H7 st Pt s7 nst eS rkS => ?_⟩
        refine ⟨.ref d, rfl, .ref wr, rfl, .ref st, rfl, by show 3 ≤ sizeLine; decide, fun t nt => ?_⟩
        have s8 := same_new (o := .tup [.ref d, .ref wr, .ref st]) nt
        have sall := ((((s03.trans su).trans s5).trans su5).trans s7)
        exact q _ t d wr st ks Pw Pt (sall.trans s8) (same_free sall nt) upd_same (hGu5.same (s7.trans s8)) inv (s8 _ _ (s7 _ _ (su5 _ _ eW))) (s8 _ _ eS) rkW rkS
end
end KH

namespace KH
open PySem PySem.Spec PyProof.Rows L2 KM
section
variable {P : Program} {w : World} {K : PySem.W.Frag} {mg : Str → Option Value} {base : Heap} {ad : Nat → Addr} {fd : Nat → FuncData}
abbrev NI : List Str := ["self", "word", "number"].map Str.ofString
theorem scI : FnScope NI NI (defScope (inClass (topS 3) 0)) := ⟨rfl, rfl, rfl, by decide +kernel, rfl, by decide +kernel, by decide +kernel⟩
theorem b_init (T : Tx K mg ad fd) : Binds K (fd 1003) NI [] := T.f_init.bindsN fun _ _ _ _ _ _ us hl => match us, hl with | [_, _, _], _ => rfl
/-! ### NoPaper -/
def spInit (C : Addr) : Sp := fun vs H Q _ => ∃ (a : Addr) (x y : V), vs = [.ref a, x, y] ∧ H a = some (exo a C none) ∧ ∀ H' d fs, (∀ b, b ≠ a → b ≠ d → H' b = H b) → H d = none → d ≠ a → H' a = some (exo a C (some d)) → H' d = some (exd d fs) → Q .non H'
theorem okI (T : Tx K mg ad fd) : FnOk P w K mg base CX0 1 (ad 1003) (fd 1003) NI (spInit (ad 3)) := by
  have nd := scI.nd
  refine T.f_init.ok scI (fun vs H Q E h => ?_) (fun cdv A outer s H vs Q E hr h => ?_)
  · obtain ⟨a, x, y, rfl, _⟩ := h
    rfl
  · obtain ⟨a, x, y, rfl, ea, q⟩ := h
    refine ⟨_, PSs.nox (pss_cons (ps_ost (pv 0) (pv 1)) (pss_one (ps_ost (pv 0) (pv 2)))), ?_⟩
    refine ⟨x, rfl, .ref a, rfl, a, ad 3, rfl, T.exT, T.exW, .inl ⟨ea, fun dx ndx hne => ?_⟩⟩
    refine ⟨y, rfl, .ref a, rfl, a, ad 3, rfl, T.exT, T.exN, .inr ⟨dx, _, upd_same, by rw [upd_ne hne, upd_same], by show 1 ≤ 900; decide, ?_⟩⟩
    refine q _ dx _ (fun b h1 h2 => ?_) ndx hne ?_ upd_same
    · rw [upd_ne h2, upd_ne h1, upd_ne h2]
    · rw [upd_ne hne.symm, upd_same]
theorem mkOk {C : Addr} {H1 : Hp} {x y : V} {Q : XK} (q : ∀ H' d, Same H1 H' → Q (.ref C) d H') : [x, y].length ≤ 1000 ∧ ∀ a, H1 a = none → spInit C (.ref a :: ([x, y] ++ [])) (upd H1 a (exo a C none))
  (fun v H2 => v = .non ∧ ∃ (d : Addr) (fs : List (Str × V)), H2 a = some (exo a C (some d)) ∧ H2 d = some (exd d fs) ∧ H1 d = none ∧ Q (.ref C) (some d) (upd (del H2 a) d (.xd fs))) (fun _ _ _ => False) := by
  refine ⟨by show 2 ≤ 1000; decide, fun a na => ⟨a, x, y, rfl, upd_same, fun H' d fs hk nd hne e1 e2 => ⟨rfl, d, fs, e1, e2, by rw [upd_ne hne] at nd; exact nd, q _ _ fun b o eb => ?_⟩⟩⟩
  have hba : b ≠ a := fun z => by rw [z, na] at eb; cases eb
  have hbd : b ≠ d := fun z => by rw [z] at eb; rw [upd_ne hne, eb] at nd; cases nd
  rw [upd_ne hbd, del_ne hba, hk b hba hbd, upd_ne hba]
  exact eb
/-! ### is_number -/
def spIsNumber : Sp := fun vs H Q _ => ∃ n : Int, vs = [.int n] ∧ Q (.bl (decide (0 ≤ n))) H
theorem ok31 (T : Tx K mg ad fd) : FnOk P w K mg base CX0 1 (ad 31) (fd 31) P31 spIsNumber := by
  have nd := sc31.nd
  refine T.f_is_number.ok sc31 (fun vs H Q E h => ?_) (fun cdv A outer s H vs Q E hr h => ?_)
  · obtain ⟨n, rfl, _⟩ := h
    rfl
  · obtain ⟨n, rfl, q⟩ := h
    refine ⟨_, PSs.nox (pss_one (ps_ret (pe_and (pe_callB (KW.isi K) (by rfl) T.b_isinstance (by decide +kernel) (pa_cons (pv 0) (pa_cons (pe_bltn (v := .ty "int") (u := .type "int") (by rfl) T.b_int (by decide +kernel) rfl) pa_nil))) (pe_and (pe_not (pe_callB (KW.isi K) (by rfl) T.b_isinstance (by decide +kernel) (pa_cons (pv 0) (pa_cons (pe_bltn (v := .ty "bool") (u := .type "bool") (by rfl) T.b_bool (by decide +kernel) rfl) pa_nil)))) (pe_one (pe_cmpR op_ge (pv 0) pe_int (nomark _))))))), ?_⟩
    refine ⟨.int n, rfl, .int n, .ty "int", _, _, true, rfl, .ty _, .base (.int n), kit_ty (by decide +kernel), true, rfl, ?_⟩
    refine iteT ⟨.int n, rfl, .int n, .ty "bool", _, _, false, rfl, .ty _, .base (.int n), kit_ty (by decide +kernel), false, rfl, ?_⟩
    exact ⟨_, rfl, iteT ⟨.int n, rfl, n, 0, rfl, rfl, q⟩⟩
theorem inV_vn (n : Nat) (l : List Nat) : inV (vn n) (l.map vn) = decide (n ∈ l) := by
  have e : l.map vn = (l.map fun x : Nat => (x : Int)).map V.int := by rw [List.map_map]; rfl
  rw [e]
  show inV (.int (n : Int)) _ = _
  rw [inV_int]
  refine decide_eq_decide.mpr ⟨fun h => ?_, fun h => List.mem_map.mpr ⟨n, h, rfl⟩⟩
  obtain ⟨x, hx, e⟩ := List.mem_map.mp h
  have : x = n := by omega
  rw [← this]
  exact hx
theorem flat_vn (l : List Nat) : (l.map vn).all flatV = true := by
  rw [List.all_map, List.all_eq_true]
  intro x _
  rfl
/-! ### passed_along -/
def spPassed (C : Addr) : Sp := fun vs H Q E => ∃ (a b l : Addr) (r : Rl) (c : Crowd) (ns : List Nat) (N : Int) (wd : Str), vs = [.ref a, .ref b, .ref l, .str wd] ∧ IsRule H a r ∧ r.Ok ∧ TI H b c ∧ Cw r.rooms N c ∧ H l = some (.tup (ns.map vn)) ∧ ns.length ≤ 1000 ∧
  (∀ g, walkTo r c ns = some g → ∀ H' p ys gb, Same H H' → H' p = some (.lst (ys ++ [.ref gb])) → TI H' gb g → Q (.ref p) H') ∧ (walkTo r c ns = none → ∀ H' d, Same H H' → E (.ref C) d H')
theorem ok32 (T : Tx K mg ad fd) : FnOk P w K mg base (L2.CX P w) 4 (ad 32) (fd 32) P32 (spPassed (ad 3)) := by
  have nd := sc32.nd
  have GI := okI (P := P) (w := w) (base := base) T
  have G14 := ok14 (P := P) (w := w) (base := base) T
  have G17 := ok17 (P := P) (w := w) (base := base) T
  have G31 := ok31 (P := P) (w := w) (base := base) T
  refine T.f_passed_along.ok sc32 (fun vs H Q E h => ?_) (fun cdv A outer s H vs Q E hr h => ?_)
  · obtain ⟨a, b, l, r, c, ns, N, wd, rfl, _⟩ := h
    rfl
  · obtain ⟨a, b, l, r, c, ns, N, wd, rfl, hR, ho, hb, hc, hl, hn, qy, qn⟩ := h
    refine ⟨_, (pss_cons (ps_set (i := 4) nd rfl (Or.inl rfl) (pe_lst (pa_cons (pv 1) pa_nil)))
  (pss_cons (ps_for (passes_of rfl) rfl (pi_enumT (by rfl) T.b_enumerate (pa_cons (pv 2) pa_nil)) (pg_tup rfl (pgs_cons (pg_name (i := 5) nd rfl (Or.inl rfl)) (pgs_cons (pg_name (i := 6) nd rfl (Or.inl rfl)) pgs_nil)))
    (pss_cons (ps_if (PW.pt (pw_or (pt_not (pt_val (pe_call G31 (hr.mono (by decide)) (by rfl) T.g_is_number T.f_is_number.kp T.b_is_number .nil pass0 (pa_cons (pv 6) pa_nil)))) (pw_or1 (pt_cmpR (KW.notInS K) (pv 6) (pe_call G14 (hr.mono (by decide)) (by rfl) T.g_can T.f_can.kp T.b_can .nil pass0 (pa_cons (pv 0) (pa_cons (pe_ix (KW.ixL K) (pv 4) (pe_un un_neg pe_int) (fun _ _ => rfl)) pa_nil))) (by with_unfolding_all rfl)))))
    (pss_one (ps_raise rfl (takes_of rfl rfl rfl rfl) (pmk_oex T.exT T.exI T.exF GI (hr.mono (by decide)) (b_init T) .nil pass0 (by rfl) T.g_NoPaper (pa_cons (pv 3) (pa_cons (pv 5) pa_nil)))))
    pss_nil)
  (pss_one (ps_expr (pe_bm PySem.F.plainAttrs_list PySem.F.slot_list_append PySem.F.type_list_append mt_append (pv 4) (pa_cons (pe_call G17 (hr.mono (by decide)) (by rfl) T.g_met T.f_met.kp T.b_met .nil pass0 (pa_cons (pv 0) (pa_cons (pe_ix (KW.ixL K) (pv 4) (pe_un un_neg pe_int) (fun _ _ => rfl)) (pa_cons (pv 6) pa_nil)))) pa_nil))))))
  (pss_one (ps_ret (pv 4))))), ?_⟩
    refine ⟨.ref b, rfl, by show 1 ≤ sizeLine; decide, fun F nF => ?_⟩
    have s1 : Same H (upd H F (.lst [.ref b])) := same_new nF
    refine ⟨.ref l, rfl, l, _, rfl, SqT.of (s1 _ _ hl), ?_⟩
    refine for_it (walk_enumT (xs := ns.map vn)) (fun i σ H1 => ∃ ys cb ci x5 x6, σ = [some (.ref a), some (.ref b), some (.ref l), some (.str wd), some (.ref F), x5, x6] ∧ Same H H1 ∧ H1 F = some (.lst (ys ++ [.ref cb])) ∧ ys.length ≤ i ∧ TI H1 cb ci ∧ Cw r.rooms N ci ∧ walkTo r c ns = walkTo r ci (ns.drop i))
      ⟨[], b, c, none, none, rfl, s1, upd_same, Nat.le_refl _, s1 _ _ hb, hc, rfl⟩ (fun i σ H1 _ hp => ?_) (fun i y σ H1 H2 hi hp hy => ?_) (fun σ H1 hp => ?_)
    · obtain ⟨_, _, _, _, _, _, sm, _⟩ := hp
      exact SqT.of (sm _ _ hl)
    · obtain ⟨ys, cb, ci, x5, x6, rfl, sm, eF, hy2, eci, hci, hw⟩ := hp
      obtain ⟨t, u, v, rfl, nt, rfl, hu, hv⟩ := hy
      cases hu
      obtain ⟨n, hni, rfl⟩ := map_at' hv
      have s2 := same_new (o := .tup [.int (i : Nat), vn n]) nt
      refine ⟨t, _, rfl, SqT.of upd_same, rfl, _, _, rfl, _, _, rfl, rfl, ?_⟩
      have s12 := sm.trans s2
      have eF2 := s2 _ _ eF
      have hdr := drop_at hni
      rw [hdr] at hw
      have hil : i < ns.length := (List.getElem?_eq_some_iff.mp hni).1
      refine ⟨vn n, rfl, (n : Int), rfl, ?_⟩
      rw [decide_eq_true (show (0 : Int) ≤ (n : Int) by omega)]
      refine ⟨_, rfl, iteF ?_⟩
      refine ⟨vn n, rfl, .ref a, rfl, .ref F, rfl, 1, rfl, F, _, _, .ref cb, rfl, rfl, SqL.of eF2, atI_last _ _, a, cb, r, ci, rfl, hR.te (tsS s12), ho, s2 _ _ eci, hci.len, fun H3 p s3 np ep => ?_⟩
      have s13 := s12.trans s3
      have eF3 := s3 _ _ eF2
      refine ⟨p, _, rfl, .inl (SqL.of ep), rfl, flat_vn _, _, rfl, ?_⟩
      rw [show (if true = true then !inV (vn n) ((canL r ci).map vn) else inV (vn n) ((canL r ci).map vn)) = !inV (vn n) ((canL r ci).map vn) from rfl, inV_vn]
      by_cases hm : n ∈ canL r ci
      · rw [decide_eq_true hm]
        refine iteF ?_
        obtain ⟨m, hm1, hm2⟩ := mem_canL.mp hm
        have hstep : (n, behind ci m) ∈ stepsL r ci := mem_stepsL.mpr ⟨m, hm1, hm2, rfl⟩
        rw [walk_cons _ hstep] at hw
        refine ⟨.ref F, rfl, .inl ⟨rfl, _, SqL.of eF3⟩, .ref a, rfl, .ref F, rfl, 1, rfl, F, _, _, .ref cb, rfl, rfl, SqL.of eF3, atI_last _ _, vn n, rfl, a, cb, r, ci, n, m, rfl, hR.te (tsS s13), ho, s3 _ _ (s2 _ _ eci), hci.len, hm1, hm2, fun H4 pb s4 npb epb => ?_⟩
        have eF4 := s4 _ _ eF3
        refine ⟨F, _, _, rfl, rfl, eF4, small (by rw [List.length_append]; show ys.length + 1 ≤ 100000; omega), ?_⟩
        refine ⟨ys ++ [.ref cb], pb, _, _, _, rfl, same_put (s13.trans s4) nF, upd_same, by rw [List.length_append]; show ys.length + 1 ≤ i + 1; omega, ?_, behind_ok (ho.meets m (List.mem_of_getElem? hm1)) hci hm2, hw⟩
        exact (Ts.put eF4 rfl).tup epb
      · rw [decide_eq_false hm]
        refine iteT ⟨.str wd, rfl, .int (i : Nat), rfl, mkOk fun H4 d s4 => ?_⟩
        rw [walk_off _ hm] at hw
        exact qn hw H4 d (s13.trans s4)
    · obtain ⟨ys, cb, ci, x5, x6, rfl, sm, eF, hy2, eci, hci, hw⟩ := hp
      rw [List.length_map, List.drop_length] at hw
      exact ⟨.ref F, rfl, qy ci hw H1 F ys cb sm eF eci⟩
end
end KH

namespace KH
open PySem PySem.Spec PyProof.Rows L2 KM
section
variable {P : Program} {w : World} {K : PySem.W.Frag} {mg : Str → Option Value} {base : Heap} {ad : Nat → Addr} {fd : Nat → FuncData}
theorem lexLt_eq : ∀ xs ys : List Int, HT.lexLt xs ys = decide (xs < ys)
  | [], [] => by rw [HT.lexLt_nil_nil]; exact (decide_eq_false (List.lt_irrefl _)).symm
  | [], y :: ys => by rw [HT.lexLt_nil_cons]; exact (decide_eq_true (List.nil_lt_cons _ _)).symm
  | x :: xs, [] => by rw [HT.lexLt_cons_nil]; exact (decide_eq_false (List.not_lt_nil _)).symm
  | x :: xs, y :: ys => by
    rw [HT.lexLt_cons]
    by_cases h : x = y
    · subst h
      rw [if_pos rfl, lexLt_eq xs ys]
      exact decide_eq_decide.mpr (by simp [List.cons_lt_cons_iff])
    · rw [if_neg h]
      exact decide_eq_decide.mpr (by simp [List.cons_lt_cons_iff, h])
/-! ### papers -/
def RankAt (H : Hp) (t : Addr) (x : Crowd × Int) : Prop := ∃ b, H t = some (.tup [.ref b, .int x.2]) ∧ TI H b x.1
theorem RankAt.te {H H' : Hp} (t : Ts H H') {a : Addr} {x : Crowd × Int} (h : RankAt H a x) : RankAt H' a x := by
  obtain ⟨b, h1, h2⟩ := h
  exact ⟨b, t.tup h1, t.tup h2⟩
theorem plT_te {H H' : Hp} (t : Ts H H') {a : Addr} {xs : List V} (h : PlT H a xs) : PlT H' a xs := by
  obtain ⟨o, e1, e2⟩ := h
  exact ⟨o, e1, t a _ rfl e2⟩
def RanksAt (H : Hp) (p : Addr) (rk : List (Crowd × Int)) : Prop := ∃ ts : List Addr, PlT H p (ts.map V.ref) ∧ Paired (RankAt H) ts rk
theorem RanksAt.te {H H' : Hp} (t : Ts H H') {p : Addr} {rk : List (Crowd × Int)} (h : RanksAt H p rk) : RanksAt H' p rk := by
  obtain ⟨ts, h1, h2⟩ := h
  exact ⟨ts, plT_te t h1, paired_imp (fun _ _ q => q.te t) h2⟩
structure PapAt' (H : Hp) (x : Addr) (p : Pap) (c n k : Addr) : Prop where
  top : H x = some (.tup [.ref c, .ref n, .ref k])
  cs : TI H c p.cs
  ns : H n = some (.tup (p.ns.map vn))
  rk : RanksAt H k p.rk
theorem PapAt'.te {H H' : Hp} (t : Ts H H') {x c n k : Addr} {p : Pap} (h : PapAt' H x p c n k) : PapAt' H' x p c n k := ⟨t.tup h.top, t.tup h.cs, t.tup h.ns, h.rk.te t⟩
def PapAt (H : Hp) (x : Addr) (p : Pap) : Prop := ∃ c n k, PapAt' H x p c n k
theorem PapAt.te {H H' : Hp} (t : Ts H H') {x : Addr} {p : Pap} (h : PapAt H x p) : PapAt H' x p := by
  obtain ⟨c, n, k, h⟩ := h
  exact ⟨c, n, k, h.te t⟩
/-! ### ask_shape -/
def spShape (C : Addr) : Sp := fun vs H Q _ => ∃ (a x : Addr) (r : Rl) (p : Pap), vs = [.ref a, .ref x] ∧ IsRule H a r ∧ r.Ok ∧ PapAt H x p ∧ p.Ok r ∧ ∀ H', Same H H' → Q .non H'
theorem ok33 (T : Tx K mg ad fd) : FnOk P w K mg base (L2.CX P w) 4 (ad 33) (fd 33) P33 (spShape (ad 3)) := by
  have nd := sc33.nd
  have GI := okI (P := P) (w := w) (base := base) T
  have G9 := ok9 (P := P) (w := w) (base := base) T
  obtain ⟨tM, hM⟩ := T.m_MOST_HANDS_errchecker
  refine T.f_ask_shape.ok sc33 (fun vs H Q E h => ?_) (fun cdv A outer s H vs Q E hr h => ?_)
  · obtain ⟨a, x, r, p, rfl, _⟩ := h
    rfl
  · obtain ⟨a, x, r, p, rfl, hR, ho, ⟨c, n, k, hp⟩, hpo, q⟩ := h
    obtain ⟨sa, ma, ya, ms, hR'⟩ := id hR
    refine ⟨_, (pss_cons (ps_if (PW.pt (pw_or (pt_not (pt_val (pe_callB (KW.isi K) (by rfl) T.b_isinstance (by decide +kernel) (pa_cons (pv 1) (pa_cons (pe_bltn (v := .ty "tuple") (u := .type "tuple") (by rfl) T.b_tuple (by decide +kernel) rfl) pa_nil))))) (pw_or (pt_cmpR op_ne (pe_callB (KW.lenS K) (by rfl) T.b_len (by decide +kernel) (pa_cons (pv 1) pa_nil)) pe_int (nomark _)) (pw_or1 (pt_not (pt_val (pe_call G9 (hr.mono (by decide)) (by rfl) T.g_is_counts T.f_is_counts.kp T.b_is_counts .nil pass0 (pa_cons (pe_callB (KW.lenS K) (by rfl) T.b_len (by decide +kernel) (pa_cons (pe_ix (KW.ixT K) (pv 0) pe_int (fun _ _ => rfl)) pa_nil)) (pa_cons (pe_ix (KW.ixT K) (pv 1) pe_int (fun _ _ => rfl)) pa_nil)))))))))
    (pss_one (ps_raise rfl (takes_of rfl rfl rfl rfl) (pmk_oex T.exT T.exI T.exF GI (hr.mono (by decide)) (b_init T) .nil pass0 (by rfl) T.g_NoPaper (pa_cons pe_str (pa_cons pe_int pa_nil)))))
    pss_nil)
  (pss_one (ps_if (PW.pt (pw_or (pt_cmpR op_gt (pe_callB (KW.sumT K) (by rfl) T.b_sum (by decide +kernel) (pa_cons (pe_ix (KW.ixT K) (pv 1) pe_int (fun _ _ => rfl)) pa_nil)) (pe_glob (v := .int 60) (by rfl) hM ⟨tM, rfl⟩) (nomark _)) (pw_or (pt_not (pt_val (pe_callB (KW.isi K) (by rfl) T.b_isinstance (by decide +kernel) (pa_cons (pe_ix (KW.ixT K) (pv 1) pe_int (fun _ _ => rfl)) (pa_cons (pe_bltn (v := .ty "tuple") (u := .type "tuple") (by rfl) T.b_tuple (by decide +kernel) rfl) pa_nil))))) (pw_or1 (pt_not (pt_val (pe_callB (KW.isi K) (by rfl) T.b_isinstance (by decide +kernel) (pa_cons (pe_ix (KW.ixT K) (pv 1) pe_int (fun _ _ => rfl)) (pa_cons (pe_bltn (v := .ty "tuple") (u := .type "tuple") (by rfl) T.b_tuple (by decide +kernel) rfl) pa_nil)))))))))
    (pss_one (ps_raise rfl (takes_of rfl rfl rfl rfl) (pmk_oex T.exT T.exI T.exF GI (hr.mono (by decide)) (b_init T) .nil pass0 (by rfl) T.g_NoPaper (pa_cons pe_str (pa_cons pe_int pa_nil)))))
    pss_nil))), ?_⟩
    obtain ⟨ts, ⟨ok, hok1, hok2⟩, hts⟩ := hp.rk
    have hcs := hpo.cs
    refine ⟨.ref x, rfl, .ref x, .ty "tuple", _, _, true, rfl, .ty _, .base (.tup hp.top), kit_ty (by decide +kernel), true, rfl, ?_⟩
    refine iteF ⟨.ref x, rfl, x, _, rfl, .inr (SqT.of hp.top), rfl, _, rfl, ?_⟩
    refine iteNS rfl ?_
    refine ⟨.ref a, rfl, a, _, 1, _, rfl, rfl, SqT.of hR'.top, at_nat (n := 1) rfl, sa, _, rfl, .inr (SqT.of hR'.starts), .ref x, rfl, x, _, 0, _, rfl, rfl, SqT.of hp.top, at_nat (n := 0) rfl, ?_⟩
    refine ⟨(r.starts.map vn).length, c, p.cs, rfl, hp.cs, by rw [List.length_map]; exact hcs, by rw [List.length_map]; have := ho.sorts4; omega, fun H1 s1 => ?_⟩
    have hp1 := hp.te (tsS s1)
    refine ⟨true, rfl, iteF ?_⟩
    refine ⟨.ref x, rfl, x, _, 0, _, rfl, rfl, SqT.of hp1.top, at_nat (n := 0) rfl, c, p.cs, rfl, SqT.of hp1.cs, p.cs.sum, 60, rfl, rfl, _, rfl, ?_⟩
    rw [decide_eq_false (show ¬ (60 : Int) < p.cs.sum by have := hcs.sum4; omega)]
    refine iteF ⟨.ref x, rfl, x, _, 1, _, rfl, rfl, SqT.of hp1.top, at_nat (n := 1) rfl, .ref n, .ty "tuple", _, _, true, rfl, .ty _, .base (.tup hp1.ns), kit_ty (by decide +kernel), true, rfl, iteF ?_⟩
    refine ⟨.ref x, rfl, x, _, 2, _, rfl, rfl, SqT.of hp1.top, at_nat (n := 2) rfl, .ref k, .ty "tuple", _, _, true, rfl, .ty _, .fTuple (s1 _ _ hok2), kit_ty (by decide +kernel), true, rfl, iteF ?_⟩
    exact q H1 s1
/-! ### is_ranked -/
def spIsRanked : Sp := fun vs H Q _ => ∃ (a t : Addr) (r : Rl) (x : Crowd × Int) (h : Int), vs = [.ref a, .ref t, .int h] ∧ IsRule H a r ∧ RankAt H t x ∧ x.1.length ≤ 1000 ∧ ∀ H', Same H H' → Q (.bl (decide (0 ≤ x.2) && (isCrowdB r.rooms x.1 && decide (x.1.sum = h)))) H'
theorem ok34 (T : Tx K mg ad fd) : FnOk P w K mg base CX0 4 (ad 34) (fd 34) P34 spIsRanked := by
  have nd := sc34.nd
  have G11 := ok11 (P := P) (w := w) (base := base) T
  have G31 := ok31 (P := P) (w := w) (base := base) T
  refine T.f_is_ranked.ok sc34 (fun vs H Q E h => ?_) (fun cdv A outer s H vs Q E hr h => ?_)
  · obtain ⟨a, t, r, x, h', rfl, _⟩ := h
    rfl
  · obtain ⟨a, t, r, x, h', rfl, hR, ⟨b, ht, hb⟩, hl, q⟩ := h
    refine ⟨_, PSs.nox (pss_cons (ps_if (PW.pt (pw_or (pt_not (pt_val (pe_callB (KW.isi K) (by rfl) T.b_isinstance (by decide +kernel) (pa_cons (pv 1) (pa_cons (pe_bltn (v := .ty "tuple") (u := .type "tuple") (by rfl) T.b_tuple (by decide +kernel) rfl) pa_nil))))) (pw_or (pt_cmpR op_ne (pe_callB (KW.lenS K) (by rfl) T.b_len (by decide +kernel) (pa_cons (pv 1) pa_nil)) pe_int (nomark _)) (pw_or1 (pt_not (pt_val (pe_call G31 (hr.mono (by decide)) (by rfl) T.g_is_number T.f_is_number.kp T.b_is_number .nil pass0 (pa_cons (pe_ix (KW.ixT K) (pv 1) pe_int (fun _ _ => rfl)) pa_nil))))))))
    (pss_one (ps_ret pe_bl))
    pss_nil)
  (pss_one (ps_ret (pe_and (pe_call G11 (hr.mono (by decide)) (by rfl) T.g_is_crowd T.f_is_crowd.kp T.b_is_crowd .nil pass0 (pa_cons (pv 0) (pa_cons (pe_ix (KW.ixT K) (pv 1) pe_int (fun _ _ => rfl)) pa_nil))) (pe_one (pe_cmpR op_eq (pe_callB (KW.sumT K) (by rfl) T.b_sum (by decide +kernel) (pa_cons (pe_ix (KW.ixT K) (pv 1) pe_int (fun _ _ => rfl)) pa_nil)) (pv 2) (nomark _))))))), ?_⟩
    refine ⟨.ref t, rfl, .ref t, .ty "tuple", _, _, true, rfl, .ty _, .base (.tup ht), kit_ty (by decide +kernel), true, rfl, ?_⟩
    refine iteF ⟨.ref t, rfl, t, _, rfl, .inr (SqT.of ht), rfl, _, rfl, ?_⟩
    refine iteNS rfl ?_
    refine ⟨.ref t, rfl, t, _, 1, _, rfl, rfl, SqT.of ht, at_nat (n := 1) rfl, x.2, rfl, _, rfl, ?_⟩
    by_cases h0 : 0 ≤ x.2
    · rw [decide_eq_true h0] at q ⊢
      refine iteF ?_
      refine ⟨.ref a, rfl, .ref t, rfl, t, _, 0, _, rfl, rfl, SqT.of ht, at_nat (n := 0) rfl, a, b, r, x.1, rfl, hR, hb, hl, fun H1 s1 => ⟨_, rfl, ?_⟩⟩
      have q1 := q H1 s1
      by_cases hc : isCrowdB r.rooms x.1 = true
      · rw [hc] at q1 ⊢
        refine iteT ⟨.ref t, rfl, t, _, 0, _, rfl, rfl, SqT.of (s1 _ _ ht), at_nat (n := 0) rfl, b, x.1, rfl, SqT.of (s1 _ _ hb), .int h', rfl, rfl, ?_⟩
        have e : decide (V.int x.1.sum = V.int h') = decide (x.1.sum = h') := decide_eq_decide.mpr (by simp)
        rw [e]
        simpa using q1
      · rw [Bool.not_eq_true] at hc
        rw [hc] at q1 ⊢
        exact iteF (by simpa using q1)
    · rw [decide_eq_false h0] at q ⊢
      exact iteT (q H (Same.refl H))
end
end KH

namespace KH
open PySem PySem.Spec PyProof.Rows L2 KM
section
variable {P : Program} {w : World} {K : PySem.W.Frag} {mg : Str → Option Value} {base : Heap} {ad : Nat → Addr} {fd : Nat → FuncData}
/-! ### ask_ranks -/
def spAskRanks (C : Addr) : Sp := fun vs H Q E => ∃ (a p : Addr) (r : Rl) (rk : List (Crowd × Int)) (h : Int), vs = [.ref a, .ref p, .int h] ∧ IsRule H a r ∧ RanksAt H p rk ∧ (∀ x ∈ rk, x.1.length ≤ 1000) ∧
  (RkOk r h rk → ∀ H', Same H H' → Q .non H') ∧ (¬ RkOk r h rk → ∀ H' d, Same H H' → E (.ref C) d H')
def RkUp (r : Rl) (h : Int) (rk : List (Crowd × Int)) (i : Nat) : Prop := (∀ p ∈ rk.take i, 0 ≤ p.2 ∧ isCrowdB r.rooms p.1 = true ∧ p.1.sum = h) ∧ ∀ (j : Nat) (p q : Crowd × Int), j + 1 < i → rk[j]? = some p → rk[j + 1]? = some q → p.1 < q.1
theorem ok35 (T : Tx K mg ad fd) : FnOk P w K mg base (L2.CX P w) 5 (ad 35) (fd 35) P35 (spAskRanks (ad 3)) := by
  have nd := sc35.nd
  have GI := okI (P := P) (w := w) (base := base) T
  have G34 := ok34 (P := P) (w := w) (base := base) T
  refine T.f_ask_ranks.ok sc35 (fun vs H Q E h => ?_) (fun cdv A outer s H vs Q E hr h => ?_)
  · obtain ⟨a, p, r, rk, h', rfl, _⟩ := h
    rfl
  · obtain ⟨a, p, r, rk, h, rfl, hR, ⟨ts, hp, pts⟩, hl, qy, qn⟩ := h
    refine ⟨_, (pss_one (ps_for (passes_of rfl) rfl (pi_enumT (by rfl) T.b_enumerate (pa_cons (pv 1) pa_nil)) (pg_tup rfl (pgs_cons (pg_name (i := 3) nd rfl (Or.inl rfl)) (pgs_cons (pg_name (i := 4) nd rfl (Or.inl rfl)) pgs_nil)))
    (pss_one (ps_if (PW.pt (pw_or (pt_not (pt_val (pe_call G34 (hr.mono (by decide)) (by rfl) T.g_is_ranked T.f_is_ranked.kp T.b_is_ranked .nil pass0 (pa_cons (pv 0) (pa_cons (pv 4) (pa_cons (pv 2) pa_nil)))))) (pw_or1 (PW.pt (pw_and (pt_cmpR op_gt (pv 3) pe_int (nomark _)) (pw_and1 (pt_not (pt_cmpR (KW.ltT K (hu_lt hr)) (pe_ix (KW.ixT K) (pe_ix (KW.ixT K) (pv 1) (pe_op op_sub (pv 3) pe_int) (fun _ _ => rfl)) pe_int (fun _ _ => rfl)) (pe_ix (KW.ixT K) (pv 4) pe_int (fun _ _ => rfl)) (nomark _)))))))))
    (pss_one (ps_raise rfl (takes_of rfl rfl rfl rfl) (pmk_oex T.exT T.exI T.exF GI (hr.mono (by decide)) (b_init T) .nil pass0 (by rfl) T.g_NoPaper (pa_cons pe_str (pa_cons (pv 3) pa_nil)))))
    pss_nil)))), ?_⟩
    refine ⟨.ref p, rfl, p, _, rfl, hp.sq, ?_⟩
    have hlen : ts.length = rk.length := Paired.length pts
    refine for_it (walk_enumT (xs := ts.map V.ref)) (fun i σ H1 => ∃ x3 x4, σ = [some (.ref a), some (.ref p), some (.int h), x3, x4] ∧ Same H H1 ∧ RkUp r h rk i)
      ⟨none, none, rfl, Same.refl H, fun p hp => by simp at hp, fun j p q hj => by omega⟩ (fun i σ H1 _ hp' => ?_) (fun i y σ H1 H2 hi hp' hy => ?_) (fun σ H1 hp' => ?_)
    · obtain ⟨_, _, _, sm, _⟩ := hp'
      exact (plT_te (tsS sm) hp).sq
    · obtain ⟨x3, x4, rfl, sm, up⟩ := hp'
      obtain ⟨t, u, v, rfl, nt, rfl, hu, hv⟩ := hy
      cases hu
      obtain ⟨ta, hta, rfl⟩ := map_at' hv
      obtain ⟨x, hx, hxa⟩ := paired_at' pts hta
      have s2 := same_new (o := .tup [.int (i : Nat), .ref ta]) nt
      have s12 := sm.trans s2
      refine ⟨t, _, rfl, SqT.of upd_same, rfl, _, _, rfl, _, _, rfl, rfl, ?_⟩
      refine ⟨.ref a, rfl, .ref ta, rfl, .int h, rfl, a, ta, r, x, h, rfl, hR.te (tsS s12), hxa.te (tsS s12), hl x (List.mem_of_getElem? hx), fun H3 s3 => ⟨_, rfl, ?_⟩⟩
      have s13 := s12.trans s3
      by_cases hb : (decide (0 ≤ x.2) && (isCrowdB r.rooms x.1 && decide (x.1.sum = h))) = true
      · have hb' : 0 ≤ x.2 ∧ isCrowdB r.rooms x.1 = true ∧ x.1.sum = h := by simpa using hb
        rw [hb]
        refine iteF ?_
        refine ⟨.int (i : Nat), rfl, i, 0, rfl, rfl, _, rfl, ?_⟩
        by_cases hi0 : i = 0
        · subst hi0
          refine iteF ?_
          exact ⟨_, _, rfl, s13, fun z hz => by
            rcases (mem_take_succ hx).mp hz with q | q
            · exact up.1 z q
            · rw [q]; exact hb', fun j p q hj => by omega⟩
        · rw [decide_eq_true (show (0 : Int) < ((i : Nat) : Int) by omega)]
          refine iteT ?_
          obtain ⟨x0, hx0⟩ : ∃ x0, rk[i - 1]? = some x0 := ⟨_, List.getElem?_eq_getElem (by have := (List.getElem?_eq_some_iff.mp hx).1; omega)⟩
          obtain ⟨t0, ht0, b0, hb0, hb0'⟩ := paired_at pts hx0
          obtain ⟨b1, hb1, hb1'⟩ := id hxa
          have t13 := tsS s13
          refine ⟨.ref p, rfl, .int (i : Nat), rfl, i, 1, rfl, rfl, p, _, _, _, rfl, rfl, (plT_te t13 hp).sq, by rw [show ((i : Nat) : Int) - 1 = ((i - 1 : Nat) : Int) by omega]; exact at_nat (map_at ht0), t0, _, 0, _, rfl, rfl, SqT.of (t13.tup hb0), at_nat (n := 0) rfl, ?_⟩
          refine ⟨.ref ta, rfl, ta, _, 0, _, rfl, rfl, SqT.of (t13.tup hb1), at_nat (n := 0) rfl, b0, b1, x0.1, x.1, rfl, rfl, SqT.of (t13.tup hb0'), SqT.of (t13.tup hb1'), _, rfl, ?_⟩
          rw [lexLt_eq]
          by_cases hlt : x0.1 < x.1
          · rw [decide_eq_true hlt]
            refine iteF ?_
            refine ⟨_, _, rfl, s13, fun z hz => ?_, fun j p' q' hj h1 h2 => ?_⟩
            · rcases (mem_take_succ hx).mp hz with q | q
              · exact up.1 z q
              · rw [q]; exact hb'
            · by_cases hj' : j + 1 < i
              · exact up.2 j p' q' hj' h1 h2
              · have e1 : j = i - 1 := by omega
                have e2 : j + 1 = i := by omega
                rw [e1, hx0] at h1
                rw [e2, hx] at h2
                rw [← Option.some.inj h1, ← Option.some.inj h2]
                exact hlt
          · rw [decide_eq_false hlt]
            refine iteT ⟨.int (i : Nat), rfl, mkOk fun H4 d s4 => qn (fun hk => hlt ?_) H4 d (s13.trans s4)⟩
            exact hk.rise (i - 1) x0 x hx0 (by rw [show i - 1 + 1 = i by omega]; exact hx)
      · rw [Bool.not_eq_true] at hb
        rw [hb]
        refine iteT ⟨.int (i : Nat), rfl, mkOk fun H4 d s4 => qn (fun hk => ?_) H4 d (s13.trans s4)⟩
        have := hk.each x (List.mem_of_getElem? hx)
        have h2 : (decide (0 ≤ x.2) && (isCrowdB r.rooms x.1 && decide (x.1.sum = h))) = true := by simp [this.1, this.2.1, this.2.2]
        rw [hb] at h2
        cases h2
    · obtain ⟨x3, x4, rfl, sm, up⟩ := hp'
      have hl2 : (ts.map V.ref).length = rk.length := by rw [List.length_map, hlen]
      rw [hl2] at up
      refine qy ⟨fun z hz => up.1 z (by rw [List.take_length]; exact hz), fun j p' q' h1 h2 => up.2 j p' q' ?_ h1 h2⟩ H1 sm
      exact (List.getElem?_eq_some_iff.mp h2).1
/-! ### ask_ways -/
theorem prs_of {H : Hp} : ∀ {ts : List Addr} {rk : List (Crowd × Int)}, Paired (RankAt H) ts rk → PrsT H ts (asg (intD rk))
  | _, _, .nil => .nil
  | _, _, .cons ⟨b, h1, h2⟩ t => .cons ⟨b, h1, tiK h2⟩ (prs_of t)
def lowB (rk : List (Crowd × Int)) (m : Int) (y : Crowd) : Bool := rk.any fun p => decide (p.1 = y) && decide (p.2 < m)
theorem lowB_iff {rk : List (Crowd × Int)} {m : Int} {y : Crowd} : lowB rk m y = true ↔ ∃ k, (y, k) ∈ rk ∧ k < m := by
  unfold lowB
  rw [List.any_eq_true]
  constructor
  · rintro ⟨p, hp, h⟩
    rw [Bool.and_eq_true, decide_eq_true_eq, decide_eq_true_eq] at h
    exact ⟨p.2, by rw [← h.1]; exact hp, h.2⟩
  · rintro ⟨k, h1, h2⟩
    exact ⟨(y, k), h1, by simp [h2]⟩
theorem key_one : ∀ {rk : List (Crowd × Int)} {y : Crowd} {k k' : Int}, (keysOf rk).Nodup → (y, k) ∈ rk → (y, k') ∈ rk → k = k'
  | p :: rk, y, k, k', hn, h1, h2 => by
    obtain ⟨n1, n2⟩ := List.nodup_cons.mp (show (p.1 :: keysOf rk).Nodup from hn)
    rcases List.mem_cons.mp h1 with e1 | e1 <;> rcases List.mem_cons.mp h2 with e2 | e2
    · rw [← e1] at e2
      exact ((Prod.mk.inj e2).2).symm
    · exact absurd (List.mem_map.mpr ⟨(y, k'), e2, by rw [← e1]⟩) n1
    · exact absurd (List.mem_map.mpr ⟨(y, k), e1, by rw [← e2]⟩) n1
    · exact key_one n2 e1 e2
theorem lowB_at {rk : List (Crowd × Int)} {m k : Int} {y : Crowd} (hn : (keysOf rk).Nodup) (h : (y, k) ∈ rk) : lowB rk m y = decide (k < m) := by
  rw [Bool.eq_iff_iff, lowB_iff, decide_eq_true_eq]
  constructor
  · rintro ⟨k', h1, h2⟩
    rw [key_one hn h h1]
    exact h2
  · exact fun h2 => ⟨k, h, h2⟩
theorem paired_mapR {α β γ : Type} {R : α → γ → Prop} {f : β → γ} : ∀ {l : List α} {m : List β}, Paired (fun a b => R a (f b)) l m → Paired R l (m.map f)
  | _, _, .nil => .nil
  | _, _, .cons h t => .cons h (paired_mapR t)
def spAskWays (C : Addr) : Sp := fun vs H Q E => ∃ (a p : Addr) (r : Rl) (rk : List (Crowd × Int)) (wd : Said), vs = [.ref a, .ref p, .str (Str.ofString wd.tx)] ∧ IsRule H a r ∧ r.Ok ∧ RanksAt H p rk ∧ (keysOf rk).Nodup ∧ rk.length ≤ 1000 ∧ (∀ x ∈ rk, x.1.length = r.rooms) ∧
  ((∀ x ∈ rk, WayOk r wd rk x) → ∀ H', Same H H' → Q .non H') ∧ (¬ (∀ x ∈ rk, WayOk r wd rk x) → ∀ H' d, Same H H' → E (.ref C) d H')
theorem ok36 (T : Tx K mg ad fd) : FnOk P w K mg base (L2.CX P w) 4 (ad 36) (fd 36) P36 (spAskWays (ad 3)) := by
  have nd := sc36.nd
  have GI := okI (P := P) (w := w) (base := base) T
  have G14 := ok14 (P := P) (w := w) (base := base) T
  have G17 := ok17 (P := P) (w := w) (base := base) T
  have G18 := ok18 (P := P) (w := w) (base := base) T
  refine T.f_ask_ways.ok sc36 (fun vs H Q E h => ?_) (fun cdv A outer s H vs Q E hr h => ?_)
  · obtain ⟨a, p, r, rk, wd, rfl, _⟩ := h
    rfl
  · obtain ⟨a, p, r, rk, wd, rfl, hR, ho, ⟨ts, hp, pts⟩, hnd, hl, hrm, qy, qn⟩ := h
    refine ⟨_, (pss_cons (ps_set (i := 3) nd rfl (Or.inr rfl) (pe_callTy (KW.dctT K (hu_d hr)) (by rfl) T.b_dict (by decide +kernel) (pa_cons (pv 1) pa_nil)))
  (pss_one (ps_for (passes_of rfl) rfl (pi_enumT (by rfl) T.b_enumerate (pa_cons (pv 1) pa_nil)) (pg_tup rfl (pgs_cons (pg_name (i := 4) nd rfl (Or.inl rfl)) (pgs_cons (pg_name (i := 5) nd rfl (Or.inl rfl)) pgs_nil)))
    (pss_cons (ps_asg (pv 5) (pg_tup rfl (pgs_cons (pg_name (i := 6) nd rfl (Or.inr rfl)) (pgs_cons (pg_name (i := 7) nd rfl (Or.inr rfl)) pgs_nil))))
  (pss_cons (ps_setLc (i := 8) (own := [("number", 9)]) (g := (gName 9)) (tt := tYes) (by rfl) nd rfl rfl (sw_true rfl rfl rfl (by decide +kernel)) (pi_list (pe_call G14 (hr.mono (by decide)) (by rfl) T.g_can T.f_can.kp T.b_can .nil pass0 (pa_cons (pv 0) (pa_cons (pv 6) pa_nil)))) (blkOk_by (N := N36) (sc := defScope (topS 36)) (by decide +kernel)) (fun _ _ _ _ _ => pg_name (i := 9) nd rfl (Or.inl rfl)) (fun _ _ _ _ _ => pts_nil) (fun _ _ _ _ _ => (pe_call G17 (hr.mono (by decide)) (by rfl) T.g_met T.f_met.kp T.b_met .nil pass0 (pa_cons (pv 0) (pa_cons (pv 6) (pa_cons (pv 9) pa_nil))))))
  (pss_cons (ps_if (pt_not (pt_val (pe_callB (KW.allL K) (by rfl) T.b_all (by decide +kernel) (pa_cons (pe_lc (own := [("other", 10)]) (g := (gName 10)) (tt := tYes) (by rfl) nd (pi_list (pv 8)) (blkOk_by (N := N36) (sc := defScope (topS 36)) (by decide +kernel)) (fun _ _ _ _ _ => pg_name (i := 10) nd rfl (Or.inl rfl)) (fun _ _ _ _ _ => pts_nil) (fun _ _ _ _ _ => (pe_cmp (pc_din (hu_of hr) (pv 10) (pv 3))))) pa_nil))))
    (pss_one (ps_raise rfl (takes_of rfl rfl rfl rfl) (pmk_oex T.exT T.exI T.exF GI (hr.mono (by decide)) (b_init T) .nil pass0 (by rfl) T.g_NoPaper (pa_cons pe_str (pa_cons (pv 4) pa_nil)))))
    pss_nil)
  (pss_cons (ps_if (PW.pt (pw_and (pt_cmpR op_eq (pv 7) pe_int (nomark _)) (pw_and1 (pt_cmpR op_eq (pe_call G18 (hr.mono (by decide)) (by rfl) T.g_said T.f_said.kp T.b_said .nil pass0 (pa_cons (pv 0) (pa_cons (pv 6) pa_nil))) (pv 2) (nomark _)))))
    (pss_one (ps_raise rfl (takes_of rfl rfl rfl rfl) (pmk_oex T.exT T.exI T.exF GI (hr.mono (by decide)) (b_init T) .nil pass0 (by rfl) T.g_NoPaper (pa_cons pe_str (pa_cons (pv 4) pa_nil)))))
    pss_nil)
  (pss_one (ps_if (PW.pt (pw_and (pt_cmpR op_gt (pv 7) pe_int (nomark _)) (pw_and1 (pt_not (pt_val (pe_callB (KW.anyL K) (by rfl) T.b_any (by decide +kernel) (pa_cons (pe_lc (own := [("other", 10)]) (g := (gName 10)) (tt := tYes) (by rfl) nd (pi_list (pv 8)) (blkOk_by (N := N36) (sc := defScope (topS 36)) (by decide +kernel)) (fun _ _ _ _ _ => pg_name (i := 10) nd rfl (Or.inl rfl)) (fun _ _ _ _ _ => pts_nil) (fun _ _ _ _ _ => (pe_cmpR op_lt (pe_dget (hu_of hr) (pv 3) (pv 10) (fun _ _ => rfl)) (pv 7) (nomark _)))) pa_nil)))))))
    (pss_one (ps_raise rfl (takes_of rfl rfl rfl rfl) (pmk_oex T.exT T.exI T.exF GI (hr.mono (by decide)) (b_init T) .nil pass0 (by rfl) T.g_NoPaper (pa_cons pe_str (pa_cons (pv 4) pa_nil)))))
    pss_nil))))))))), ?_⟩
    have hlen : ts.length = rk.length := Paired.length pts
    have hnd' : (rk.map (·.1)).Nodup := hnd
    refine ⟨.ref p, rfl, p, ts, _, rfl, .inr hp, prs_of pts, fun To nT => ?_⟩
    rw [merge_nd (by rw [intD_keys]; exact hnd)]
    have s1 := same_new (o := .dT (asg (intD rk))) nT
    refine ⟨.ref p, rfl, p, _, rfl, (plT_te (tsS s1) hp).sq, ?_⟩
    refine for_it (walk_enumT (xs := ts.map V.ref)) (fun i σ H1 => ∃ x4 x5 x6 x7 x8 x9 x10, σ = [some (.ref a), some (.ref p), some (.str (Str.ofString wd.tx)), some (.ref To), x4, x5, x6, x7, x8, x9, x10] ∧ Same H H1 ∧ H1 To = some (.dT (asg (intD rk))) ∧ ∀ x ∈ rk.take i, WayOk r wd rk x)
      ⟨none, none, none, none, none, none, none, rfl, s1, upd_same, fun x hx => by simp at hx⟩ (fun i σ H1 _ hp' => ?_) (fun i y σ H1 H2 hi hp' hy => ?_) (fun σ H1 hp' => ?_)
    · obtain ⟨_, _, _, _, _, _, _, _, sm, _⟩ := hp'
      exact (plT_te (tsS sm) hp).sq
    · obtain ⟨x4, x5, x6, x7, x8, x9, x10, rfl, sm, eT, up⟩ := hp'
      obtain ⟨t, u, v, rfl, nt, rfl, hu, hv⟩ := hy
      cases hu
      obtain ⟨ta, hta, rfl⟩ := map_at' hv
      obtain ⟨x, hx, hxa⟩ := paired_at' pts hta
      have hxm := List.mem_of_getElem? hx
      have s2 := same_new (o := .tup [.int (i : Nat), .ref ta]) nt
      have s12 := sm.trans s2
      have hlx := hrm x hxm
      refine ⟨t, _, rfl, SqT.of upd_same, rfl, _, _, rfl, _, _, rfl, rfl, ?_⟩
      obtain ⟨b, hb1, hb2⟩ := hxa.te (tsS s12)
      refine ⟨.ref ta, rfl, ta, _, rfl, SqT.of hb1, rfl, _, _, rfl, _, _, rfl, rfl, ?_⟩
      refine ⟨.ref a, rfl, .ref b, rfl, a, b, r, x.1, rfl, hR.te (tsS s12), ho, hb2, hlx, fun H3 p3 s3 np3 ep3 => ?_⟩
      have s13 := s12.trans s3
      refine ⟨p3, rfl, ⟨_, SqL.of ep3⟩, fun D nD => ?_⟩
      refine lc_map (walk_list (xs := (canL r x.1).map vn)) (stepsL r x.1) (by rw [List.length_map, steps_len]) (by rw [List.length_map]; have := can_few ho x.1; omega) (fun s y H' => ∃ t, y = .ref t ∧ TI H' t s.2) nD (fun _ _ _ _ t h => by obtain ⟨u, h1, h2⟩ := h; exact ⟨u, h1, t.tup h2⟩) (fun H4 s6 => SqL.of (s6 _ _ ep3)) (fun j st y H4 H5 KY hi s6 hy ky => ?_) (fun H4 ys s6 eD pr => ?_)
      · obtain ⟨rfl, hy⟩ := hy
        obtain ⟨h1, m, h2, h3, h4⟩ := steps_at hi
        obtain ⟨n', hn', rfl⟩ := map_at' hy
        rw [h1] at hn'
        cases hn'
        refine ⟨rfl, .ref a, rfl, .ref b, rfl, vn st.1, rfl, a, b, r, x.1, st.1, m, rfl, hR.te (tsS (s13.trans s6)), ho, (tsS (s3.trans s6)).tup hb2, hlx, h2, h3, fun H5 pb s8 npb epb => ky _ _ s8 ⟨pb, rfl, by rw [h4]; exact epb⟩⟩
      · obtain ⟨ts4, rfl, pts4⟩ := refs_of (S := fun (t : Addr) (s : Nat × Crowd) => TI H4 t s.2) pr
        have hpl : ts4.length = (succs r x.1).length := by unfold succs; rw [List.length_map]; exact Paired.length pts4
        have hsl : (succs r x.1).length ≤ 100 := by unfold succs; rw [List.length_map, steps_len]; exact can_few ho x.1
        have psu : Paired (TI H4) ts4 (succs r x.1) := by
          unfold succs
          exact paired_mapR pts4
        have s3' : Same H1 H4 := (s2.trans s3).trans s6
        have s14 := s13.trans s6
        have eT4 : H4 To = some (.dT (asg (intD rk))) := s3' _ _ eT
        refine ⟨.ref D, rfl, D, rfl, ⟨_, SqL.of eD⟩, fun B nB => lc_pure (walk_list (xs := ts4.map V.ref)) (succs r x.1) (by rw [List.length_map, hpl]) (by rw [List.length_map]; omega) (fun y => .bl (decide (y ∈ keysOf rk))) nB (fun H5 s5 => SqL.of (s5 _ _ eD)) (fun j y z H5 H6 KY hj s5 hz ky => ?_) (fun H5 s5 eB => ?_)⟩
        · obtain ⟨rfl, hz⟩ := hz
          obtain ⟨yb, hyb, rfl⟩ := map_at' hz
          obtain ⟨y', hy1, hy2⟩ := paired_at' psu hyb
          rw [hj] at hy1
          cases hy1
          refine ⟨rfl, .ref yb, rfl, .ref To, rfl, To, _, rfl, dget_c (s5 _ _ eT4) (s5 _ _ hy2), ?_⟩
          rw [valV_some_iff, intD_keys]
          exact ky _ (Same.refl _)
        · have eB' : H5 B = some (.lst (((succs r x.1).map fun y => decide (y ∈ keysOf rk)).map V.bl)) := by rw [List.map_map]; exact eB
          refine ⟨B, _, rfl, SqL.of eB', _, rfl, ?_⟩
          have s15 := s14.trans s5
          cases hall : ((succs r x.1).map fun y => decide (y ∈ keysOf rk)).all id with
          | false =>
            refine iteT ⟨.int (i : Nat), rfl, mkOk fun H6 d s6 => qn (fun hk => ?_) H6 d (s15.trans s6)⟩
            have : ((succs r x.1).map fun y => decide (y ∈ keysOf rk)).all id = true := by
              rw [List.all_eq_true]
              intro z hz
              obtain ⟨y, hy, rfl⟩ := List.mem_map.mp hz
              exact decide_eq_true ((hk x hxm).cl y hy)
            rw [hall] at this
            cases this
          | true =>
            have hcl : ∀ y ∈ succs r x.1, y ∈ keysOf rk := fun y hy => by
              have := List.all_eq_true.mp hall _ (List.mem_map.mpr ⟨y, hy, rfl⟩)
              exact of_decide_eq_true this
            refine iteF ⟨.int x.2, rfl, rfl, _, rfl, ?_⟩
            have hb5 := (tsS ((s3.trans s6).trans s5)).tup hb2
            have up' : WayOk r wd rk x → ∀ z ∈ rk.take (i + 1), WayOk r wd rk z := fun hw z hz => by
              rcases (mem_take_succ hx).mp hz with q | q
              · exact up z q
              · rw [q]; exact hw
            have eT5 := s5 _ _ eT4
            by_cases h0 : x.2 = 0
            · rw [decide_eq_true (show V.int x.2 = V.int 0 by rw [h0])]
              refine iteT ⟨.ref a, rfl, .ref b, rfl, a, b, r, x.1, rfl, hR.te (tsS s15), ho, hb5, hlx, fun H6 s6' => ⟨_, rfl, rfl, _, rfl, ?_⟩⟩
              rw [decS]
              have s16 := s15.trans s6'
              by_cases hs : said r x.1 = wd
              · rw [decide_eq_true hs]
                exact iteT ⟨.int (i : Nat), rfl, mkOk fun H7 d s7 => qn (fun hk => (hk x hxm).zero h0 hs) H7 d (s16.trans s7)⟩
              · rw [decide_eq_false hs]
                refine iteF ⟨.int x.2, rfl, x.2, 0, rfl, rfl, _, rfl, ?_⟩
                rw [decide_eq_false (show ¬ 0 < x.2 by omega)]
                exact iteF ⟨_, _, _, _, _, _, _, rfl, s16, s6' _ _ eT5, up' ⟨hcl, fun _ => hs, fun z => by omega⟩⟩
            · rw [decide_eq_false (show ¬ V.int x.2 = V.int 0 from fun z => h0 (V.int.inj z))]
              refine iteF ⟨.int x.2, rfl, x.2, 0, rfl, rfl, _, rfl, ?_⟩
              by_cases hpos : 0 < x.2
              · rw [decide_eq_true hpos]
                have eD5 := s5 _ _ eD
                refine iteT ⟨.ref D, rfl, D, rfl, ⟨_, SqL.of eD5⟩, fun B' nB' => lc_pure (walk_list (xs := ts4.map V.ref)) (succs r x.1) (by rw [List.length_map, hpl]) (by rw [List.length_map]; omega) (fun y => .bl (lowB rk x.2 y)) nB' (fun H6 s6' => SqL.of (s6' _ _ eD5)) (fun j y z H6 H7 KY hj s6' hz ky => ?_) (fun H6 s6' eB2 => ?_)⟩
                · obtain ⟨rfl, hz⟩ := hz
                  obtain ⟨yb, hyb, rfl⟩ := map_at' hz
                  obtain ⟨y', hy1, hy2⟩ := paired_at' psu hyb
                  rw [hj] at hy1
                  cases hy1
                  have hyk := hcl y (List.mem_of_getElem? hj)
                  obtain ⟨⟨y0, k⟩, hyk1, hyk2⟩ := List.mem_map.mp hyk
                  simp only at hyk2
                  subst hyk2
                  refine ⟨rfl, .ref To, rfl, .ref yb, rfl, To, .int k, rfl, ?_, .int x.2, rfl, k, x.2, rfl, rfl, ?_⟩
                  · rw [← intD_val hnd' hyk1]
                    exact dget_c (s6' _ _ eT5) (s6' _ _ (s5 _ _ hy2))
                  · have e := ky H7 (Same.refl _)
                    simp only [lowB_at hnd hyk1] at e
                    exact e
                · have eB2' : H6 B' = some (.lst (((succs r x.1).map (lowB rk x.2)).map V.bl)) := by rw [List.map_map]; exact eB2
                  refine ⟨B', _, rfl, SqL.of eB2', _, rfl, ?_⟩
                  have s16 := s15.trans s6'
                  cases hany : ((succs r x.1).map (lowB rk x.2)).any id with
                  | false =>
                    refine iteT ⟨.int (i : Nat), rfl, mkOk fun H7 d s7 => qn (fun hk => ?_) H7 d (s16.trans s7)⟩
                    obtain ⟨y, hy, k, h1, h2⟩ := (hk x hxm).fall hpos
                    have : ((succs r x.1).map (lowB rk x.2)).any id = true := List.any_eq_true.mpr ⟨_, List.mem_map.mpr ⟨y, hy, rfl⟩, lowB_iff.mpr ⟨k, h1, h2⟩⟩
                    rw [hany] at this
                    cases this
                  | true =>
                    refine iteF ⟨_, _, _, _, _, _, _, rfl, s16, s6' _ _ eT5, up' ⟨hcl, fun z => absurd z h0, fun _ => ?_⟩⟩
                    obtain ⟨v, hv1, hv2⟩ := List.any_eq_true.mp hany
                    obtain ⟨y, hy, rfl⟩ := List.mem_map.mp hv1
                    obtain ⟨k, h1, h2⟩ := lowB_iff.mp hv2
                    exact ⟨y, hy, k, h1, h2⟩
              · rw [decide_eq_false hpos]
                exact iteF ⟨_, _, _, _, _, _, _, rfl, s15, eT5, up' ⟨hcl, fun z => absurd z h0, fun z => absurd z hpos⟩⟩
    · obtain ⟨_, _, _, _, _, _, _, rfl, sm, _, up⟩ := hp'
      have hl2 : (ts.map V.ref).length = rk.length := by rw [List.length_map, hlen]
      rw [hl2, List.take_length] at up
      exact qy up H1 sm
end
end KH

namespace KH
open PySem PySem.Spec PyProof.Rows L2 KM
section
variable {P : Program} {w : World} {K : PySem.W.Frag} {mg : Str → Option Value} {base : Heap} {ad : Nat → Addr} {fd : Nat → FuncData}
/-! ### lets_err -/
def spLets (C : Addr) : Sp := fun vs H Q E => ∃ (a b x : Addr) (r : Rl) (q : Qu) (p : Pap), vs = [.ref a, .ref b, .ref x] ∧ IsRule H a r ∧ r.Ok ∧ QAt H b q ∧ q.Ok r.starts.length ∧ q.dep < 2 ∧ PapAt H x p ∧ p.Ok r ∧
  (Valid r q p → ∀ H', Same H H' → Q (.bl true) H') ∧ (¬ Valid r q p → ∀ H' d, Same H H' → E (.ref C) d H')
theorem ok37 (T : Tx K mg ad fd) : FnOk P w K mg base (L2.CX P w) 6 (ad 37) (fd 37) P37 (spLets (ad 3)) := by
  have nd := sc37.nd
  have GI := okI (P := P) (w := w) (base := base) T
  have G12 := ok12 (P := P) (w := w) (base := base) T
  have G27 := ok27 (P := P) (w := w) (base := base) T
  have G32 := ok32 (P := P) (w := w) (base := base) T
  have G33 := ok33 (P := P) (w := w) (base := base) T
  have G35 := ok35 (P := P) (w := w) (base := base) T
  have G36 := ok36 (P := P) (w := w) (base := base) T
  refine T.f_lets_err.ok sc37 (fun vs H Q E h => ?_) (fun cdv A outer s H vs Q E hr h => ?_)
  · obtain ⟨a, b, x, r, qq, p, rfl, _⟩ := h
    rfl
  · obtain ⟨a, b, x, r, qq, p, rfl, hR, ho, hq, hqo, hqd, hp, hpo, qy, qn⟩ := h
    refine ⟨_, (pss_cons (ps_expr (pe_call G33 (hr.mono (by decide)) (by rfl) T.g_ask_shape T.f_ask_shape.kp T.b_ask_shape .nil (passes_call (takes_of rfl rfl rfl rfl) (fun _ _ _ _ h => h)) (pa_cons (pv 0) (pa_cons (pv 2) pa_nil))))
  (pss_cons (ps_asg (pv 2) (pg_tup rfl (pgs_cons (pg_name (i := 3) nd rfl (Or.inl rfl)) (pgs_cons (pg_name (i := 4) nd rfl (Or.inl rfl)) (pgs_cons (pg_name (i := 5) nd rfl (Or.inl rfl)) pgs_nil)))))
  (pss_cons (ps_set (i := 6) nd rfl (Or.inl rfl) (pe_ix (KW.ixL K) (pe_call G32 (hr.mono (by decide)) (by rfl) T.g_passed_along T.f_passed_along.kp T.b_passed_along .nil (passes_call (takes_of rfl rfl rfl rfl) (fun _ _ _ _ h => h)) (pa_cons (pv 0) (pa_cons (pe_call G12 (hr.mono (by decide)) (by rfl) T.g_begun T.f_begun.kp T.b_begun .nil pass0 (pa_cons (pv 0) (pa_cons (pv 3) pa_nil))) (pa_cons (pv 4) (pa_cons pe_str pa_nil))))) (pe_un un_neg pe_int) (fun _ _ => rfl)))
  (pss_cons (ps_expr (pe_call G35 (hr.mono (by decide)) (by rfl) T.g_ask_ranks T.f_ask_ranks.kp T.b_ask_ranks .nil (passes_call (takes_of rfl rfl rfl rfl) (fun _ _ _ _ h => h)) (pa_cons (pv 0) (pa_cons (pv 5) (pa_cons (pe_callB (KW.sumT K) (by rfl) T.b_sum (by decide +kernel) (pa_cons (pv 3) pa_nil)) pa_nil)))))
  (pss_cons (ps_if (pt_cmp (pc_dnotin (hu_of hr) (pv 6) (pe_callTy (KW.dctT K (hu_d hr)) (by rfl) T.b_dict (by decide +kernel) (pa_cons (pv 5) pa_nil))))
    (pss_one (ps_raise rfl (takes_of rfl rfl rfl rfl) (pmk_oex T.exT T.exI T.exF GI (hr.mono (by decide)) (b_init T) .nil pass0 (by rfl) T.g_NoPaper (pa_cons pe_str (pa_cons pe_int pa_nil)))))
    pss_nil)
  (pss_cons (ps_expr (pe_call G36 (hr.mono (by decide)) (by rfl) T.g_ask_ways T.f_ask_ways.kp T.b_ask_ways .nil (passes_call (takes_of rfl rfl rfl rfl) (fun _ _ _ _ h => h)) (pa_cons (pv 0) (pa_cons (pv 5) (pa_cons (pe_call G27 (hr.mono (by decide)) (by rfl) T.g_truth_word T.f_truth_word.kp T.b_truth_word .nil pass0 (pa_cons (pv 1) (pa_cons (pv 3) pa_nil))) pa_nil)))))
  (pss_one (ps_ret pe_bl)))))))), ?_⟩
    refine ⟨.ref a, rfl, .ref x, rfl, a, x, r, p, rfl, hR, ho, hp, hpo, fun H1 s1 => ?_⟩
    obtain ⟨c, n, k, hp0⟩ := hp
    have hp1 := hp0.te (tsS s1)
    refine ⟨.ref x, rfl, x, _, rfl, SqT.of hp1.top, rfl, _, _, rfl, _, _, rfl, _, _, rfl, rfl, ?_⟩
    have hcs := hpo.cs
    have hbo := begun_ok ho hcs
    refine ⟨.ref a, rfl, .ref a, rfl, .ref c, rfl, a, c, r, p.cs, rfl, hR.te (tsS s1), ho, hp1.cs, hcs.len, fun H2 bb s2 nbb ebb => ?_⟩
    have s12 := s1.trans s2
    have hp2 := hp1.te (tsS s2)
    refine ⟨.ref n, rfl, a, bb, n, r, begun r p.cs, p.ns, p.cs.sum, _, rfl, hR.te (tsS s12), ho, ebb, hbo, hp2.ns, hpo.ns, fun g hg H3 F ys gb s3 eF egb => ?_, fun hg H3 d s3 => ?_⟩
    · have s13 := s12.trans s3
      have hp3 := hp2.te (tsS s3)
      refine ⟨1, rfl, F, _, _, .ref gb, rfl, rfl, SqL.of eF, atI_last _ _, ?_⟩
      refine ⟨.ref a, rfl, .ref k, rfl, .ref c, rfl, c, p.cs, rfl, SqT.of hp3.cs, a, k, r, p.rk, p.cs.sum, rfl, hR.te (tsS s13), hp3.rk, fun z hz => by rw [hpo.rooms z hz]; have := ho.rooms5; omega, fun hrk H4 s4 => ?_, fun hrk H4 d s4 => ?_⟩
      · have s14 := s13.trans s4
        have hp4 := hp3.te (tsS s4)
        obtain ⟨ts, hpl, pts⟩ := hp4.rk
        refine ⟨.ref gb, rfl, .ref k, rfl, k, ts, _, rfl, .inr hpl, prs_of pts, fun To nT => ?_⟩
        have hnd' : (p.rk.map (·.1)).Nodup := hrk.nd
        rw [merge_nd (by rw [intD_keys]; exact hnd')]
        have s5 := same_new (o := .dT (asg (intD p.rk))) nT
        have s15 := s14.trans s5
        have hp5 := hp4.te (tsS s5)
        refine ⟨To, _, rfl, dget_c upd_same ((tsS (s4.trans s5)).tup egb), _, rfl, ?_⟩
        rw [valV_some_iff, intD_keys]
        by_cases hm : g ∈ p.rk.map (·.1)
        · rw [decide_eq_true hm]
          refine iteF ?_
          refine ⟨.ref a, rfl, .ref k, rfl, .ref b, rfl, .ref c, rfl, b, c, qq, p.cs, rfl, hq.te (tsS s15), by rw [hcs.len]; exact hqo, hp5.cs, hqd, fun H6 s6 => ?_⟩
          have s16 := s15.trans s6
          have hp6 := hp5.te (tsS s6)
          refine ⟨a, k, r, p.rk, truthW (holdsQ qq p.cs), rfl, hR.te (tsS s16), ho, hp6.rk, hrk.nd, hpo.rk, hpo.rooms, fun hw H7 s7 => ?_, fun hw H7 d s7 => ?_⟩
          · exact qy ⟨hrk, ⟨g, hg, hm⟩, hw⟩ H7 (s16.trans s7)
          · exact qn (fun v => hw v.ways) H7 d (s16.trans s7)
        · rw [decide_eq_false hm]
          refine iteT (mkOk fun H6 d s6 => qn (fun v => ?_) H6 d (s15.trans s6))
          obtain ⟨g', h1, h2⟩ := v.way
          rw [hg] at h1
          rw [← Option.some.inj h1] at h2
          exact hm h2
      · exact qn (fun v => hrk v.ranks) H4 d (s13.trans s4)
    · refine qn (fun v => ?_) H3 d (s12.trans s3)
      obtain ⟨g, h1, _⟩ := v.way
      rw [hg] at h1
      cases h1
end
end KH

namespace KM
def wrongS (r : Rl) (wd : Said) (x : Crowd) : Prop := said r x ≠ wd
/-- never settled -/
def Lost (r : Rl) (wd : Said) (x : Crowd) : Prop := ∀ y, Rch r x y → CanTo (succs r) (wrongS r wd) y
theorem valid_lost {r : Rl} {q : Qu} {p : Pap} {c : Crowd} (v : Valid r q p) (hc : c ∈ keysOf p.rk) : Lost r (truthW (holdsQ q p.cs)) c := by
  intro y hy
  have hk : y ∈ keysOf p.rk := hy.within (P := fun z => z ∈ keysOf p.rk) hc fun x hx z hz => by
    obtain ⟨w, hw, rfl⟩ := List.mem_map.mp hx
    exact (v.ways w hw).cl z hz
  have key : ∀ (n : Nat) (w : Crowd × Int), w ∈ p.rk → w.2.toNat ≤ n → CanTo (succs r) (wrongS r (truthW (holdsQ q p.cs))) w.1 := by
    intro n
    induction n with
    | zero =>
      intro w hw hn
      have := (v.ranks.each w hw).1
      exact .self ((v.ways w hw).zero (by omega))
    | succ n ih =>
      intro w hw hn
      have h0 := (v.ranks.each w hw).1
      by_cases e : w.2 = 0
      · exact .self ((v.ways w hw).zero e)
      · obtain ⟨y, hy, k, h1, h2⟩ := (v.ways w hw).fall (by omega)
        have := (v.ranks.each (y, k) h1).1
        simp only at this
        exact .step hy (ih (y, k) h1 (by simp only; omega))
  obtain ⟨w, hw, rfl⟩ := List.mem_map.mp hk
  exact key _ w hw (Nat.le_refl _)
theorem CanTo.iff {α : Type} {E : α → List α} {S S' : α → Prop} {x : α} (h : ∀ y, Reach E x y → (S y ↔ S' y)) : CanTo E S x ↔ CanTo E S' x :=
  ⟨fun ⟨y, hr, hs⟩ => ⟨y, hr, (h y hr).mp hs⟩, fun ⟨y, hr, hs⟩ => ⟨y, hr, (h y hr).mpr hs⟩⟩
/-- a set of crowds, closed under steps -/
def Closed (r : Rl) (ks : List Crowd) : Prop := ∀ x ∈ ks, ∀ y ∈ succs r x, y ∈ ks
theorem Closed.reach {r : Rl} {ks : List Crowd} (h : Closed r ks) {x y : Crowd} (hx : x ∈ ks) (hr : Rch r x y) : y ∈ ks := hr.within (P := fun z => z ∈ ks) hx h
/-- wr: the crowds that can reach one that errs; st: those that can reach one outside of wr -/
theorem lost_iff {r : Rl} {wd : Said} {ks wr st : List Crowd} (hk : Closed r ks) (hw : ∀ x ∈ ks, x ∈ wr ↔ CanTo (succs r) (wrongS r wd) x) (hs : ∀ x ∈ ks, x ∈ st ↔ CanTo (succs r) (fun y => y ∈ ks ∧ y ∉ wr) x) {x : Crowd} (hx : x ∈ ks) : x ∉ st ↔ Lost r wd x := by
  rw [hs x hx]
  constructor
  · intro h y hy
    have hyk := hk.reach hx hy
    rw [← hw y hyk]
    refine Classical.byContradiction fun hn => h ⟨y, hy, hyk, hn⟩
  · rintro h ⟨y, hy, hyk, hn⟩
    exact hn ((hw y hyk).mpr (h y hy))
theorem len_all {α : Type} [DecidableEq α] {l D : List α} (hl : l.Nodup) (hD : D.Nodup) (hs : ∀ x ∈ l, x ∈ D) : l.length = D.length ↔ ∀ x ∈ D, x ∈ l :=
  ⟨fun e => mem_of_len hl hD hs e, fun h => Nat.le_antisymm (nodup_len l D hl hs) (nodup_len D l hD h)⟩
/-- the told paper is let -/
theorem told_valid {r : Rl} {q : Qu} {cs : List Int} {ns : List Nat} {c : Crowd} {ks : List Crowd} {Pw rk : List (Crowd × Int)} (ho : r.Ok) (hcs : Cs r.starts.length cs) (hk : ∀ x, x ∈ ks ↔ Rch r (begun r cs) x)
    (hR : Ranks r ks (ks.filter fun x => decide (¬ said r x = truthW (holdsQ q cs))) Pw) (hwk : walkTo r (begun r cs) ns = some c) (hL : Lost r (truthW (holdsQ q cs)) c) (hkeys : ∀ x, x ∈ keysOf rk ↔ Rch r c x) (hnd : (keysOf rk).Nodup) (hso : (keysOf rk).Pairwise (· ≤ ·)) (hin : ∀ x ∈ rk, x ∈ Pw) :
    Valid r q ⟨cs, ns, rk⟩ := by
  have hcr := walk_reach hwk
  have hbo := begun_ok ho hcs
  have hclo : Closed r ks := fun x hx y hy => (hk y).mpr (.step ((hk x).mp hx) hy)
  refine ⟨⟨fun p hp => ?_, fun i p p' h1 h2 => ?_⟩, ⟨c, hwk, (hkeys c).mpr (.refl _)⟩, fun p hp => ?_⟩
  · have hr := (hkeys p.1).mp (List.mem_map.mpr ⟨p, hp, rfl⟩)
    have hc := reach_ok ho hbo (hcr.trans hr)
    refine ⟨(hR.rk p (hin p hp)).1, isCrowdB_iff.mpr ⟨hc.len, hc.pos, ?_⟩, hc.sum⟩
    rw [hc.sum]
    have := hcs.sum1
    omega
  · have k1 : (keysOf rk)[i]? = some p.1 := by unfold keysOf; rw [List.getElem?_map, h1]; rfl
    have k2 : (keysOf rk)[i + 1]? = some p'.1 := by unfold keysOf; rw [List.getElem?_map, h2]; rfl
    obtain ⟨l1, e1⟩ := List.getElem?_eq_some_iff.mp k1
    obtain ⟨l2, e2⟩ := List.getElem?_eq_some_iff.mp k2
    have hle := List.pairwise_iff_getElem.mp hso i (i + 1) l1 l2 (by omega)
    rw [e1, e2] at hle
    have hne : p.1 ≠ p'.1 := fun e => by
      have := (List.getElem?_inj l1 hnd).mp (k1.trans (by rw [e]; exact k2.symm))
      omega
    rcases List.le_iff_lt_or_eq.mp hle with h | h
    · exact h
    · exact absurd h hne
  · have hpk : p.1 ∈ keysOf rk := List.mem_map.mpr ⟨p, hp, rfl⟩
    have hr := (hkeys p.1).mp hpk
    have hcl : ∀ y ∈ succs r p.1, y ∈ keysOf rk := fun y hy => (hkeys y).mpr (.step hr hy)
    obtain ⟨h0, h1, h2⟩ := hR.rk p (hin p hp)
    refine ⟨hcl, fun z => ?_, fun z => ?_⟩
    · have := (List.mem_filter.mp (h1 z)).2
      exact of_decide_eq_true this
    · obtain ⟨w, hw, hs, hlt⟩ := h2 z
      refine ⟨w.1, hs, w.2, ?_, hlt⟩
      obtain ⟨w', hw', e⟩ := List.mem_map.mp (hcl w.1 hs)
      have hw2 := hin w' hw'
      have hone : w' = w := by
        have n1 := hR.nd
        obtain ⟨i, hi⟩ := List.mem_iff_getElem?.mp hw
        obtain ⟨j, hj⟩ := List.mem_iff_getElem?.mp hw2
        have ki : (Pw.map (·.1))[i]? = some w.1 := by rw [List.getElem?_map, hi]; rfl
        have kj : (Pw.map (·.1))[j]? = some w'.1 := by rw [List.getElem?_map, hj]; rfl
        have : i = j := (List.getElem?_inj (List.getElem?_eq_some_iff.mp ki).1 n1).mp (ki.trans (by rw [← e]; exact kj.symm))
        subst this
        rw [hi] at hj
        exact (Option.some.inj hj).symm
      rw [← hone]
      exact hw'
end KM
namespace KM
/-! ### _law_all: depth first -/
structure AInv (r : Rl) (c : Crowd) (Fd Ln : List Crowd) : Prop where
  nd : Fd.Nodup
  rf : ∀ x ∈ Fd, Rch r c x
  rl : ∀ x ∈ Ln, Rch r c x
  cl : ∀ x ∈ Fd, ∀ y ∈ succs r x, y ∈ Fd ∨ y ∈ Ln
  hd : c ∈ Fd ∨ c ∈ Ln
theorem AInv.start (r : Rl) (c : Crowd) : AInv r c [] [c] := ⟨List.nodup_nil, (fun x hx => by cases hx), (fun x hx => by rw [List.mem_singleton.mp hx]; exact .refl _), (fun x hx => by cases hx), .inr (by simp)⟩
theorem AInv.skip {r : Rl} {c x : Crowd} {Fd Ln : List Crowd} (h : AInv r c Fd (Ln ++ [x])) (hx : x ∈ Fd) : AInv r c Fd Ln := by
  have k : ∀ y, y ∈ Fd ∨ y ∈ Ln ++ [x] → y ∈ Fd ∨ y ∈ Ln := fun y hy => by
    rcases hy with q | q
    · exact .inl q
    · rcases List.mem_append.mp q with q | q
      · exact .inr q
      · rw [List.mem_singleton.mp q]; exact .inl hx
  exact ⟨h.nd, h.rf, fun y hy => h.rl y (List.mem_append_left _ hy), fun y hy z hz => k z (h.cl y hy z hz), k c h.hd⟩
theorem AInv.add {r : Rl} {c x : Crowd} {Fd Ln : List Crowd} (h : AInv r c Fd (Ln ++ [x])) (hx : x ∉ Fd) : AInv r c (Fd ++ [x]) (Ln ++ succs r x) := by
  have hxr := h.rl x (by simp)
  have k : ∀ y, y ∈ Fd ∨ y ∈ Ln ++ [x] → y ∈ Fd ++ [x] ∨ y ∈ Ln ++ succs r x := fun y hy => by
    rcases hy with q | q
    · exact .inl (List.mem_append_left _ q)
    · rcases List.mem_append.mp q with q | q
      · exact .inr (List.mem_append_left _ q)
      · exact .inl (List.mem_append_right _ q)
  refine ⟨nodup_snoc h.nd hx, fun y hy => ?_, fun y hy => ?_, fun y hy z hz => ?_, k c h.hd⟩
  · rcases List.mem_append.mp hy with q | q
    · exact h.rf y q
    · rw [List.mem_singleton.mp q]; exact hxr
  · rcases List.mem_append.mp hy with q | q
    · exact h.rl y (List.mem_append_left _ q)
    · exact .step hxr q
  · rcases List.mem_append.mp hy with q | q
    · exact k z (h.cl y q z hz)
    · rw [List.mem_singleton.mp q] at hz
      exact .inr (List.mem_append_right _ hz)
theorem AInv.done {r : Rl} {c : Crowd} {Fd : List Crowd} (h : AInv r c Fd []) (x : Crowd) : x ∈ Fd ↔ Rch r c x := by
  refine ⟨h.rf x, fun hr => ?_⟩
  have h0 : c ∈ Fd := by
    rcases h.hd with q | q
    · exact q
    · cases q
  refine hr.within (P := fun y => y ∈ Fd) h0 fun y hy z hz => ?_
  rcases h.cl y hy z hz with q | q
  · exact q
  · cases q
theorem succs_few {r : Rl} (ho : r.Ok) (c : Crowd) : (succs r c).length ≤ 100 := by
  unfold succs
  rw [List.length_map, steps_len]
  exact can_few ho c
end KM

namespace KH
open PySem PySem.Spec PyProof.Rows L2 KM
section
variable {P : Program} {w : World} {K : PySem.W.Frag} {mg : Str → Option Value} {base : Heap} {ad : Nat → Addr} {fd : Nat → FuncData}
theorem prs_true {H : Hp} : ∀ {ts : List Addr} {gs : List Crowd}, Paired (fun t c => ∃ b, H t = some (.tup [.ref b, .bl true]) ∧ TI H b c) ts gs → PrsT H ts (asg (trueD gs))
  | _, _, .nil => .nil
  | _, _, .cons ⟨b, h1, h2⟩ t => .cons ⟨b, h1, tiK h2⟩ (prs_true t)
theorem ranks_of {H : Hp} {Pw : List (Crowd × Int)} {β : Type} {f : β → Crowd} : ∀ {bs : List β} {ys : List V}, Paired (fun b y => ∃ t k, y = V.ref t ∧ RankAt H t (f b, k) ∧ (f b, k) ∈ Pw) bs ys →
    ∃ (ts : List Addr) (rk : List (Crowd × Int)), ys = ts.map V.ref ∧ Paired (RankAt H) ts rk ∧ keysOf rk = bs.map f ∧ ∀ x ∈ rk, x ∈ Pw
  | _, _, .nil => ⟨[], [], rfl, .nil, rfl, fun x hx => by cases hx⟩
  | _, _, .cons (a := b) ⟨t, k, e, h1, h2⟩ tl => by
    obtain ⟨ts, rk, e1, e2, e3, e4⟩ := ranks_of tl
    refine ⟨t :: ts, (f b, k) :: rk, by rw [e, e1]; rfl, .cons h1 e2, by show f b :: keysOf rk = _; rw [e3]; rfl, fun x hx => ?_⟩
    rcases List.mem_cons.mp hx with q | q
    · rw [q]; exact h2
    · exact e4 x q
/-! ### err_at -/
/-- some crowd from the start on is lost -/
def SomeLost (r : Rl) (q : Qu) (cs : List Int) : Prop := ∃ x, Rch r (begun r cs) x ∧ Lost r (truthW (holdsQ q cs)) x
def spErrAt : Sp := fun vs H Q _ => ∃ (a b e : Addr) (r : Rl) (qq : Qu) (cs : List Int), vs = [.ref a, .ref b, .ref e, .int 1000] ∧ IsRule H a r ∧ r.Ok ∧ QAt H b qq ∧ qq.Ok r.starts.length ∧ qq.dep < 2 ∧ TI H e cs ∧ Cs r.starts.length cs ∧
  (¬ SomeLost r qq cs → ∀ H', Same H H' → Q .non H') ∧
  (SomeLost r qq cs → ∀ H' t p, Same H H' → PapAt H' t p → p.Ok r → p.cs = cs → Valid r qq p → p.rk.length ≤ 130 → Q (.ref t) H')
theorem ok39 (T : Tx K mg ad fd) : FnOk P w K mg base CX0 7 (ad 39) (fd 39) P39 spErrAt := by
  have nd := sc39.nd
  have G20 := ok20 (P := P) (w := w) (base := base) T
  have G21 := ok21 (P := P) (w := w) (base := base) T
  have G28 := ok28 (P := P) (w := w) (base := base) T
  refine T.f_err_at.ok sc39 (fun vs H Q E h => ?_) (fun cdv A outer s H vs Q E hr h => ?_)
  · obtain ⟨a, b, e, r, qq, cs, rfl, _⟩ := h
    rfl
  · obtain ⟨a, b, e, r, qq, cs, rfl, hR, ho, hq, hqo, hqd, he, hcs, qn, qy⟩ := h
    refine ⟨_, PSs.nox (pss_cons (ps_asg (pe_call G28 (hr.mono (by decide)) (by rfl) T.g_gone_through T.f_gone_through.kp T.b_gone_through .nil pass0 (pa_cons (pv 0) (pa_cons (pv 1) (pa_cons (pv 2) (pa_cons (pv 3) pa_nil))))) (pg_tup rfl (pgs_cons (pg_name (i := 4) nd rfl (Or.inl rfl)) (pgs_cons (pg_name (i := 5) nd rfl (Or.inr rfl)) (pgs_cons (pg_name (i := 6) nd rfl (Or.inr rfl)) pgs_nil)))))
  (pss_cons (ps_if (pt_cmpR op_eq (pe_callB call_len_dT (by rfl) T.b_len (by decide +kernel) (pa_cons (pv 6) pa_nil)) (pe_callB call_len_dT (by rfl) T.b_len (by decide +kernel) (pa_cons (pv 4) pa_nil)) (nomark _))
    (pss_one (ps_ret pe_non))
    pss_nil)
  (pss_cons (ps_set (i := 7) nd rfl (Or.inl rfl) (pe_callTy (KW.dctT K (hu_d hr)) (by rfl) T.b_dict (by decide +kernel) (pa_cons (pe_lock (pe_lc (own := [("crowd", 10)]) (g := (gName 10)) (by rfl) nd (pi_keys (pv 4)) (blkOk_by (N := N39) (sc := defScope (topS 39)) (by decide +kernel)) (fun _ _ _ _ _ => pg_name (i := 10) nd rfl (Or.inl rfl)) (fun _ _ _ _ _ => pts_one (pt_cmp (pc_dnotin (hu_of hr) (pv 10) (pv 6)))) (fun _ _ _ _ _ => (pe_tup (pa_cons (pv 10) (pa_cons pe_bl pa_nil)))))) pa_nil)))
  (pss_cons (ps_set (i := 8) nd rfl (Or.inl rfl) (pe_ix (KW.ixL K) (pe_callTy (call_list_dT rfl) (by rfl) T.b_list (by decide +kernel) (pa_cons (pv 4) pa_nil)) pe_int (fun _ _ => rfl)))
  (pss_cons (ps_asg (pe_call G21 (hr.mono (by decide)) (by rfl) T.g_row_to T.f_row_to.kp T.b_row_to .nil pass0 (pa_cons (pv 4) (pa_cons (pv 8) (pa_cons (pv 7) pa_nil)))) (pg_tup rfl (pgs_cons (pg_name (i := 9) nd rfl (Or.inl rfl)) (pgs_cons (pg_name (i := 10) nd rfl (Or.inl rfl)) pgs_nil))))
  (pss_cons (ps_setLc (i := 11) (own := [("one", 12)]) (g := (gName 12)) (tt := tYes) (by rfl) nd rfl rfl (sw_true rfl rfl rfl (by decide +kernel)) (pi_list (pe_callB (call_sortedT rfl (hu_s hr)) (by rfl) T.b_sorted (by decide +kernel) (pa_cons (pe_call G20 (hr.mono (by decide)) (by rfl) T.g_graph_of T.f_graph_of.kp T.b_graph_of .nil pass0 (pa_cons (pv 0) (pa_cons (pv 10) (pa_cons (pv 3) pa_nil)))) pa_nil))) (blkOk_by (N := N39) (sc := defScope (topS 39)) (by decide +kernel)) (fun _ _ _ _ _ => pg_name (i := 12) nd rfl (Or.inl rfl)) (fun _ _ _ _ _ => pts_nil) (fun _ _ _ _ _ => (pe_tup (pa_cons (pv 12) (pa_cons (pe_dget (hu_of hr) (pv 5) (pv 12) (fun _ _ => rfl)) pa_nil)))))
  (pss_one (ps_ret (pe_tup (pa_cons (pv 2) (pa_cons (pe_callTy (KW.tupO K) (by rfl) T.b_tuple (by decide +kernel) (pa_cons (pv 9) pa_nil)) (pa_cons (pe_callTy (KW.tupP K) (by rfl) T.b_tuple (by decide +kernel) (pa_cons (pv 11) pa_nil)) pa_nil)))))))))))), ?_⟩
    have hbo := begun_ok ho hcs
    refine ⟨.ref a, rfl, .ref b, rfl, .ref e, rfl, .int 1000, rfl, a, b, e, r, qq, cs, 1000, rfl, hR, ho, hq, by rw [hcs.len]; exact hqo, hqd, he, hcs, by decide, fun H1 t d wr st ks Pw Ps s1 nt et hG inv ew es rkW rkS => ?_⟩
    have hkr := inv.done
    have hclo : Closed r ks := fun x hx y hy => (hkr y).mpr (.step ((hkr x).mp hx) hy)
    have few := inv.few ho hbo hcs.sum4
    obtain ⟨wd, hwd⟩ : ∃ wd, wd = truthW (holdsQ qq cs) := ⟨_, rfl⟩
    have hw : ∀ x ∈ ks, x ∈ Pw.map (·.1) ↔ CanTo (succs r) (wrongS r wd) x := fun x hx => by
      rw [rkW.iff hclo x hx]
      refine CanTo.iff fun y hy => ?_
      have hyk := hclo.reach hx hy
      unfold wrongL wrongS
      rw [List.mem_filter, decide_eq_true_eq, hwd]
      exact ⟨fun z => z.2, fun z => ⟨hyk, z⟩⟩
    have hs : ∀ x ∈ ks, x ∈ Ps.map (·.1) ↔ CanTo (succs r) (fun y => y ∈ ks ∧ y ∉ Pw.map (·.1)) x := fun x hx => by
      rw [rkS.iff hclo x hx]
      refine CanTo.iff fun y hy => ?_
      unfold notIn
      rw [List.mem_filter]
      simp
    have hlo : ∀ x ∈ ks, x ∉ Ps.map (·.1) ↔ Lost r wd x := fun x hx => lost_iff hclo hw hs hx
    obtain ⟨gp, g1, g2, g3, g4⟩ := id hG
    refine ⟨t, _, rfl, SqT.of et, rfl, _, _, rfl, _, _, rfl, _, _, rfl, rfl, ?_⟩
    refine ⟨.ref st, rfl, st, _, rfl, es, .ref d, rfl, d, _, rfl, g1, rfl, _, rfl, ?_⟩
    have hlen1 : (asg (intD Ps)).length = (Ps.map (·.1)).length := by rw [len_asg, List.length_map, List.length_map]
    have hlen2 : (asg gp).length = ks.length := by rw [len_asg, ← g2, List.length_map]
    rw [hlen1, hlen2]
    have hall := len_all rkS.nd g3 (fun x hx => by obtain ⟨p, hp, rfl⟩ := List.mem_map.mp hx; exact rkS.sub p hp)
    by_cases heq : (Ps.map (·.1)).length = ks.length
    · rw [decide_eq_true (show V.int ((Ps.map (·.1)).length : Nat) = V.int (ks.length : Nat) by rw [heq])]
      refine iteT (qn (fun ⟨x, hx, hl⟩ => ?_) H1 s1)
      have hxk := (hkr x).mpr hx
      exact (hlo x hxk).mpr (by rw [hwd]; exact hl) (hall.mp heq x hxk)
    · rw [decide_eq_false (show ¬ V.int ((Ps.map (·.1)).length : Nat) = V.int (ks.length : Nat) from fun z => heq (by have := V.int.inj z; omega))]
      refine iteF ?_
      refine ⟨d, _, g1, True.intro, fun od => ?_⟩
      have tl : Ts H1 (upd H1 d (.frz od (.dT (asg gp)))) := Ts.put g1 rfl
      have hstd : st ≠ d := fun z => by
        rw [z, g1] at es
        have e0 : asg gp = asg (intD Ps) := by
          have := Option.some.inj es
          injection this
        have hne : gp ≠ [] := fun zz => by
          rw [zz] at g2
          have := (hkr (begun r cs)).mpr (.refl _)
          rw [← g2] at this
          cases this
        cases gp with
        | nil => exact hne rfl
        | cons p0 gp =>
          obtain ⟨l, hl, _⟩ := g4 p0 List.mem_cons_self
          cases Ps with
          | nil => cases e0
          | cons q0 Ps =>
            have e1 := (List.cons.inj e0).1
            have e2 : p0.2 = .int q0.2 := (Prod.mk.inj e1).2
            rw [hl] at e2
            cases e2
      have es1 : (upd H1 d (.frz od (.dT (asg gp)))) st = some (.dT (asg (intD Ps))) := by rw [upd_ne hstd]; exact es
      refine ⟨.ref d, rfl, d, od, rfl, .inr ⟨_, upd_same, fun D nD => lc_same walk_keysT ks hlen2.symm (by rw [hlen2]; omega) (fun x => !decide (x ∈ Ps.map (·.1))) (fun x y H => ∃ q, y = .ref q ∧ ∃ b, H q = some (.tup [.ref b, .bl true]) ∧ TI H b x) nD (fun _ _ _ _ t h => by obtain ⟨u, h1, b, h2, h3⟩ := h; exact ⟨u, h1, b, t.tup h2, t.tup h3⟩) (fun H6 s6 => s6 _ _ upd_same) (fun i x y H6 H7 KY KN hi s6 hy ky kn => ?_) (fun H6 ys s6 eD pr => ?_)⟩⟩
      · obtain ⟨rfl, k, v, qb, hk, rfl, eq⟩ := hy
        obtain ⟨c', hc', etc⟩ := key_ti hk eq
        have := map_fst_at g2 hc'
        rw [hi] at this
        have := Option.some.inj this
        subst this
        refine ⟨rfl, .ref qb, rfl, .ref st, rfl, st, _, rfl, dget_c (s6 _ _ es1) etc, _, rfl, ?_⟩
        rw [valV_some_iff, intD_keys]
        cases hd : decide (x ∈ Ps.map (·.1)) with
        | true => exact kn _ (by rw [hd]; rfl) (fun _ _ e => e)
        | false => exact iteT ⟨_, rfl, by show 2 ≤ sizeLine; decide, fun t nt => ky _ _ (by rw [hd]; rfl) (same_new nt) ⟨t, rfl, qb, upd_same, same_new nt _ _ etc⟩⟩
      · have su : Same H1 (upd H6 d (.dT (asg gp))) := same_unlock g1 s6
        have t6 : Ts H6 (upd H6 d (.dT (asg gp))) := Ts.put (s6 _ _ upd_same) rfl
        have hDd : D ≠ d := fun z => by rw [z, upd_same] at nD; cases nD
        have eD7 : (upd H6 d (.dT (asg gp))) D = some (.lst ys) := by rw [upd_ne hDd]; exact eD
        have pr7 := paired_imp (fun _ _ (h : ∃ q, _ = V.ref q ∧ ∃ b, H6 q = some (.tup [.ref b, .bl true]) ∧ TI H6 b _) => (show ∃ q, _ = V.ref q ∧ ∃ b, (upd H6 d (.dT (asg gp))) q = some (.tup [.ref b, .bl true]) ∧ TI (upd H6 d (.dT (asg gp))) b _ from by obtain ⟨u, h1, b, h2, h3⟩ := h; exact ⟨u, h1, b, t6.tup h2, t6.tup h3⟩)) pr
        obtain ⟨H7, eH7⟩ : ∃ H7, H7 = upd H6 d (.dT (asg gp)) := ⟨_, rfl⟩
        rw [← eH7] at su eD7 pr7
        refine ⟨s6 _ _ upd_same, ?_⟩
        rw [← eH7]
        obtain ⟨ts, rfl, pts⟩ := refs_of (S := fun t c => ∃ b, H7 t = some (.tup [.ref b, .bl true]) ∧ TI H7 b c) pr7
        have s07 := s1.trans su
        obtain ⟨lst, hlst⟩ : ∃ lst, lst = ks.filter (fun x => !decide (x ∈ Ps.map (·.1))) := ⟨_, rfl⟩
        rw [← hlst] at pts
        have ndl : lst.Nodup := by rw [hlst]; exact g3.sublist List.filter_sublist
        have hll : ∀ x, x ∈ lst ↔ x ∈ ks ∧ Lost r wd x := fun x => by
          rw [hlst, List.mem_filter]
          constructor
          · rintro ⟨h1, h2⟩
            exact ⟨h1, (hlo x h1).mp (by simpa using h2)⟩
          · rintro ⟨h1, h2⟩
            exact ⟨h1, by simpa using (hlo x h1).mpr h2⟩
        refine ⟨D, ts, _, rfl, .inl (SqL.of eD7), prs_true pts, fun L nL => ?_⟩
        rw [merge_nd (by rw [trueD_keys]; exact ndl)]
        have s8 := same_new (o := .dT (asg (trueD lst))) nL
        have s08 := s07.trans s8
        obtain ⟨gp8, f1, f2, f3, f4⟩ := hG.same (su.trans s8)
        refine ⟨.ref d, rfl, d, _, rfl, .inl f1, fun BL bks nBL hbk => ?_⟩
        have hks0 := inv.hd
        have s9 := same_new (o := .lst (bks.map V.ref)) nBL
        have s09 := s08.trans s9
        obtain ⟨q0, hq0, hq0'⟩ : ∃ q0, gp8[0]? = some q0 ∧ q0.1 = begun r cs := by
          rw [← f2, List.getElem?_map] at hks0
          cases e : gp8[0]? with
          | none => rw [e] at hks0; cases hks0
          | some q => rw [e] at hks0; exact ⟨q, rfl, Option.some.inj hks0⟩
        obtain ⟨b0, hb0, hb0'⟩ := paired_at' (i := 0) (a := (ck q0.1, q0.2)) hbk (by unfold asg; rw [List.getElem?_map, hq0]; rfl)
        have tb0 : TI (upd H7 L (.dT (asg (trueD lst)))) b0 (begun r cs) := by
          have z : (upd H7 L (.dT (asg (trueD lst)))) b0 = some (.tup ((ck q0.1).map kV)) := hb0'
          rw [ck_kV, hq0'] at z
          exact z
        refine ⟨BL, _, 0, .ref b0, rfl, rfl, SqL.of upd_same, at_nat (n := 0) (map_at hb0), ?_⟩
        obtain ⟨x0, hx0, hx0'⟩ : ∃ x ∈ ks, x ∉ Ps.map (·.1) := by
          refine Classical.byContradiction fun hn => heq (hall.mpr fun x hx => Classical.byContradiction fun hx' => hn ⟨x, hx, hx'⟩)
        have hsl : SomeLost r qq cs := ⟨x0, (hkr x0).mp hx0, by rw [← hwd]; exact (hlo x0 hx0).mp hx0'⟩
        refine ⟨.ref d, rfl, .ref b0, rfl, .ref L, rfl, d, b0, L, r, begun r cs, ks, lst, trueD lst, rfl, ho, hG.same ((su.trans s8).trans s9), hclo, few, s9 _ _ tb0, (hkr _).mpr (.refl _), s9 _ _ upd_same, trueD_keys lst, ⟨x0, (hll x0).mpr ⟨hx0, (hlo x0 hx0).mp hx0'⟩, (hkr x0).mp hx0⟩, fun H10 t2 nl cb ns x s10 nt2 et2 enl ecb hwk hxg hnl => ?_⟩
        have s010 := s09.trans s10
        refine ⟨t2, _, rfl, SqT.of et2, rfl, _, _, rfl, _, _, rfl, rfl, ?_⟩
        obtain ⟨hxk, hxl⟩ := (hll x).mp hxg
        have hxr := (hkr x).mp hxk
        have hxc := reach_ok ho hbo hxr
        refine ⟨.ref a, rfl, .ref cb, rfl, .int 1000, rfl, a, cb, r, x, cs.sum, 1000, rfl, hR.te (tsS s010), ho, ecb, hxc, hcs.sum4, by decide, fun H11 d2 ks2 s11 nd2 hG2 inv2 => ?_⟩
        have hkr2 := inv2.done
        obtain ⟨gp2, k1, k2, k3, k4⟩ := hG2
        have hne : ∀ p ∈ gp2, p.1 ≠ [] := fun p hp z => by
          have : p.1 ∈ ks2 := by rw [← k2]; exact List.mem_map.mpr ⟨p, hp, rfl⟩
          have := (reach_ok ho hxc ((hkr2 p.1).mp this)).len
          rw [z] at this
          have h1 := ho.rooms1
          simp at this
          omega
        refine ⟨d2, gp2, rfl, .inl k1, hne, fun bs pB perm pw hbs npB => ?_⟩
        have s12 := same_new (o := .lst (bs.map fun b => V.ref b.2)) npB
        have hbk2 : ∀ y, y ∈ bs.map (·.1) ↔ Rch r x y := fun y => by
          rw [perm.mem_iff, k2, hkr2]
        have hbnd : (bs.map (·.1)).Nodup := perm.nodup_iff.mpr (by rw [k2]; exact k3)
        have hbl : bs.length ≤ 130 := by
          have e1 := perm.length_eq
          rw [List.length_map, k2] at e1
          have := inv2.few ho hxc hcs.sum4
          omega
        have s012 := (s010.trans s11).trans s12
        have eW12 := (((((su.trans s8).trans s9).trans s10).trans s11).trans s12) _ _ ew
        refine ⟨pB, rfl, ⟨_, SqL.of upd_same⟩, fun D2 nD2 => lc_map (walk_list (xs := bs.map fun b => V.ref b.2)) bs (by simp) (by rw [List.length_map]; omega) (fun b y H => ∃ t k, y = .ref t ∧ RankAt H t (b.1, k) ∧ (b.1, k) ∈ Pw) nD2 (fun _ _ _ _ t h => by obtain ⟨u, k, h1, h2, h3⟩ := h; exact ⟨u, k, h1, h2.te t, h3⟩) (fun H13 s13 => SqL.of (s13 _ _ upd_same)) (fun i b0 y H13 H14 KY hi s13 hy ky => ?_) (fun H13 ys s13 eD2 pr2 => ?_)⟩
        · obtain ⟨rfl, hy⟩ := hy
          obtain ⟨b1, hb1, rfl⟩ := map_at' hy
          rw [hi] at hb1
          cases hb1
          have hbm := List.mem_of_getElem? hi
          have eb := hbs b0 hbm
          have hbr := (hbk2 b0.1).mp (List.mem_map.mpr ⟨b0, hbm, rfl⟩)
          have hbks : b0.1 ∈ ks := (hkr _).mpr (hxr.trans hbr)
          have hbP := (hw _ hbks).mpr (hxl _ hbr)
          obtain ⟨⟨y0, k⟩, hp1, hp2⟩ := List.mem_map.mp hbP
          simp only at hp2
          subst hp2
          have eb13 : TI H14 b0.2 b0.1 := s13 _ _ (s12 _ _ eb)
          refine ⟨rfl, .ref b0.2, rfl, .ref wr, rfl, .ref b0.2, rfl, wr, .int k, rfl, ?_, by show 2 ≤ sizeLine; decide, fun t nt => ky _ _ (same_new nt) ⟨t, k, rfl, ⟨b0.2, upd_same, same_new nt _ _ eb13⟩, hp1⟩⟩
          rw [← intD_val rkW.nd hp1]
          exact dget_c (s13 _ _ eW12) eb13
        · obtain ⟨ts3, rk, rfl, pts3, hkey, hin⟩ := ranks_of (f := fun b : List Int × Addr => b.1) pr2
          have s013 := s012.trans s13
          have s1013 := (s11.trans s12).trans s13
          have hv : Valid r qq ⟨cs, ns, rk⟩ := by
            rw [hwd] at hxl
            unfold wrongL at rkW
            refine told_valid ho hcs hkr rkW hwk hxl (fun y => by rw [hkey]; exact hbk2 y) (by rw [hkey]; exact hbnd) (by rw [hkey]; exact pw) hin
          have hrl : rk.length ≤ 130 := by
            have := congrArg List.length hkey
            unfold keysOf at this
            rw [List.length_map, List.length_map] at this
            omega
          refine ⟨.ref e, rfl, .ref nl, rfl, nl, _, rfl, SqL.of (s1013 _ _ enl), fun l nl0 => ⟨.ref D2, rfl, D2, _, rfl, SqL.of (same_new nl0 _ _ eD2), fun pp oo hoo npp => ⟨by show 3 ≤ sizeLine; decide, fun tt ntt => ?_⟩⟩⟩
          have u1 := same_new (o := .tup (ns.map vn)) nl0
          have u2 := same_new (o := .frz oo (.tup (ts3.map V.ref))) npp
          have u3 := same_new (o := .tup [.ref e, .ref l, .ref pp]) ntt
          have u23 := u2.trans u3
          refine qy hsl _ tt ⟨cs, ns, rk⟩ (((s013.trans u1).trans u2).trans u3) ⟨e, l, pp, upd_same, (tsS (((s013.trans u1).trans u2).trans u3)).tup he, u23 _ _ upd_same, ts3, plT_te (tsS u3) (PlT.new hoo), paired_imp (fun _ _ h => h.te (tsS ((u1.trans u2).trans u3))) pts3⟩ ⟨hcs, by show ns.length ≤ 1000; omega, by show rk.length ≤ 1000; omega, fun z hz => ?_⟩ rfl hv hrl
          have hz2 := (hbk2 z.1).mp (by rw [← hkey]; exact List.mem_map.mpr ⟨z, hz, rfl⟩)
          exact (reach_ok ho hxc hz2).len
end
end KH

namespace KH
open PySem PySem.Spec PyProof.Rows L2 KM
section
variable {P : Program} {w : World} {K : PySem.W.Frag} {mg : Str → Option Value} {base : Heap} {ad : Nat → Addr} {fd : Nat → FuncData}
/-- a feed of at most k turns so far -/
def FeedAt (H : Hp) (f : Addr) (k : Nat) : Prop := ∃ c l t : Int, H f = some (.lst [.int c, .int l, .int t]) ∧ 0 ≤ l ∧ 0 ≤ t ∧ t ≤ (k : Int)
theorem FeedAt.same {H H' : Hp} {f : Addr} {k : Nat} (s : Same H H') (h : FeedAt H f k) : FeedAt H' f k := by
  obtain ⟨c, l, t, e, h⟩ := h
  exact ⟨c, l, t, s _ _ e, h⟩
theorem FeedAt.keep {H H' : Hp} {f x : Addr} {k : Nat} (s : SameB x H H') (hx : f ≠ x) (h : FeedAt H f k) : FeedAt H' f k := by
  obtain ⟨c, l, t, e, h⟩ := h
  exact ⟨c, l, t, s _ _ hx e, h⟩
theorem FeedAt.mono {H : Hp} {f : Addr} {k k' : Nat} (hk : k ≤ k') (h : FeedAt H f k) : FeedAt H f k' := by
  obtain ⟨c, l, t, e, h1, h2, h3⟩ := h
  exact ⟨c, l, t, e, h1, h2, by omega⟩
theorem FeedAt.te {H H' : Hp} {f : Addr} {k : Nat} (s : SameB f H H') (h : FeedAt H f k) : Ts H H' := by
  obtain ⟨c, l, t, e, _⟩ := h
  exact s.te e rfl
theorem SameB.free {f : Addr} {H H' : Hp} (s : SameB f H H') {p : Addr} (n : H' p = none) (h : f ≠ p) : H p = none := by
  cases e : H p with
  | none => rfl
  | some o => rw [s p o (Ne.symm h) e] at n; cases n
/-! ### the feed -/
def spFeed (K : PySem.W.Frag) : Sp := fun vs H Q _ => ∃ (s : Addr) (xs : List Int) (n : Nat), vs = [.ref s, vn n] ∧ SqL K H s (xs.map V.int) ∧ xs.length ≤ 1000 ∧ n ≤ 100 ∧ ∀ H' f, Same H H' → H f = none → FeedAt H' f 0 → Q (.ref f) H'
theorem ok41 (T : Tx K mg ad fd) : FnOk P w K mg base CX0 1 (ad 41) (fd 41) P41 (spFeed K) := by
  have nd := sc41.nd
  refine T.f__law_feed.ok sc41 (fun vs H Q E h => ?_) (fun cdv A outer s H vs Q E hr h => ?_)
  · obtain ⟨s, xs, n, rfl, _⟩ := h
    rfl
  · obtain ⟨s, xs, n, rfl, hs, hl, hn, q⟩ := h
    refine ⟨_, PSs.nox (pss_cons (ps_set (i := 2) nd rfl (Or.inl rfl) (pe_op op_mul pe_int (pv 1)))
  (pss_cons (ps_if (pt_cmpR op_gt (pe_callB (KW.lenS K) (by rfl) T.b_len (by decide +kernel) (pa_cons (pv 0) pa_nil)) pe_int (nomark _))
    (pss_one (ps_set (i := 2) nd rfl (Or.inl rfl) (pe_op op_add (pe_ix (KW.ixL K) (pv 0) (pe_op op_mod (pv 1) (pe_callB (KW.lenS K) (by rfl) T.b_len (by decide +kernel) (pa_cons (pv 0) pa_nil))) (fun _ _ => rfl)) (pe_op op_mul pe_int (pe_op op_fdiv (pv 1) (pe_callB (KW.lenS K) (by rfl) T.b_len (by decide +kernel) (pa_cons (pv 0) pa_nil)))))))
    pss_nil)
  (pss_one (ps_ret (pe_lst (pa_cons (pv 2) (pa_cons (pe_op op_mul (pe_callB (call_max2 rfl) (by rfl) T.b_max (by decide +kernel) (pa_cons pe_int (pa_cons (pv 2) pa_nil))) (pe_callTy call_int1 (by rfl) T.b_int (by decide +kernel) (pa_cons (pe_cmpR op_ge (pv 2) (pe_op op_pow pe_int pe_int) (nomark _)) pa_nil))) (pa_cons pe_int pa_nil)))))))), ?_⟩
    refine ⟨_, rfl, 31, n, rfl, rfl, .inl ⟨by decide, by decide⟩, ?_⟩
    refine ⟨.ref s, rfl, s, _, rfl, .inl hs, _, _, rfl, rfl, _, rfl, ?_⟩
    by_cases h0 : 0 < xs.length
    · rw [decide_eq_true (show (0 : Int) < ((xs.map V.int).length : Int) by rw [List.length_map]; omega)]
      refine iteT ?_
      have hlm : (xs.map V.int).length = xs.length := List.length_map _
      have hx : atI (xs.map V.int) ((n : Int) % ((xs.map V.int).length : Int)) = some (.int (xs.getD (n % xs.length) 0)) := by
        rw [hlm, ← Int.natCast_emod]
        exact list_at (Nat.mod_lt _ h0)
      refine ⟨.ref s, rfl, .int n, rfl, .ref s, rfl, s, _, rfl, .inl hs, n, _, rfl, rfl, by rw [hlm]; omega, s, _, _, _, rfl, rfl, hs, hx, ?_⟩
      refine ⟨.int n, rfl, .ref s, rfl, s, _, rfl, .inl hs, n, _, rfl, rfl, ⟨by rw [hlm]; omega, by rw [hlm]; omega⟩, 7919, _, rfl, rfl, .inl ⟨by decide, by decide⟩, _, _, rfl, rfl, ?_⟩
      refine ⟨_, rfl, _, rfl, _, _, rfl, _, rfl, 10, 18, rfl, rfl, ⟨by decide, by decide, by decide⟩, _, _, rfl, rfl, .inr ⟨_, rfl, _, _, rfl, rfl, .inr ⟨?_, ?_⟩, by show 3 ≤ sizeLine; decide, fun D nD => ?_⟩⟩
      · split <;> decide
      · split <;> decide
      · refine q _ D (same_new nD) nD ⟨_, _, 0, upd_same, Int.mul_nonneg (by split <;> omega) (by split <;> decide), Int.le_refl 0, Int.le_refl 0⟩
    · rw [decide_eq_false (show ¬ (0 : Int) < ((xs.map V.int).length : Int) by rw [List.length_map]; omega)]
      refine iteF ?_
      refine ⟨_, rfl, _, rfl, _, _, rfl, _, rfl, 10, 18, rfl, rfl, ⟨by decide, by decide, by decide⟩, _, _, rfl, rfl, .inr ⟨_, rfl, _, _, rfl, rfl, .inr ⟨?_, ?_⟩, by show 3 ≤ sizeLine; decide, fun D nD => ?_⟩⟩
      · split <;> decide
      · split <;> decide
      · refine q _ D (same_new nD) nD ⟨_, _, 0, upd_same, Int.mul_nonneg (by split <;> omega) (by split <;> decide), Int.le_refl 0, Int.le_refl 0⟩
/-! ### a draw -/
def spDraw : Sp := fun vs H Q _ => ∃ (f : Addr) (k : Nat) (m : Int), vs = [.ref f, .int m] ∧ FeedAt H f k ∧ k ≤ 100000 ∧ 0 < m ∧ m ≤ 100000 ∧ ∀ H' n, SameB f H H' → FeedAt H' f (k + 1) → 0 ≤ n → n < m → Q (.int n) H'
theorem ok42 (T : Tx K mg ad fd) : FnOk P w K mg base CX0 1 (ad 42) (fd 42) P42 spDraw := by
  have nd := sc42.nd
  refine T.f__law_draw.ok sc42 (fun vs H Q E h => ?_) (fun cdv A outer s H vs Q E hr h => ?_)
  · obtain ⟨f, k, m, rfl, _⟩ := h
    rfl
  · obtain ⟨f, k, m, rfl, ⟨c, l, t, ef, hl, ht, htk⟩, hk, hm, hm2, q⟩ := h
    refine ⟨_, PSs.nox (pss_cons (ps_set (i := 2) nd rfl (Or.inl rfl) (pe_ix (KW.ixL K) (pv 0) pe_int (fun _ _ => rfl)))
  (pss_cons (ps_asg (pe_op op_add (pv 2) pe_int) (pg_sub (pv 0) pe_int set_list))
  (pss_cons (ps_set (i := 3) nd rfl (Or.inl rfl) (pe_ix (KW.ixL K) (pv 0) pe_int (fun _ _ => rfl)))
  (pss_cons (ps_if (pt_cmpR op_gt (pv 3) pe_int (nomark _))
    (pss_cons (ps_asg (pe_op op_fdiv (pv 3) (pv 1)) (pg_sub (pv 0) pe_int set_list))
  (pss_one (ps_ret (pe_op op_mod (pv 3) (pv 1)))))
    pss_nil)
  (pss_cons (ps_set (i := 4) nd rfl (Or.inl rfl) (pe_op op_add (pe_op op_add (pe_op op_mod (pe_ix (KW.ixL K) (pv 0) pe_int (fun _ _ => rfl)) pe_int) (pe_op op_mul (pe_op op_mul pe_int (pv 2)) (pv 2))) pe_int))
  (pss_cons (ps_set (i := 5) nd rfl (Or.inl rfl) (pe_op op_mod (pe_op op_mul (pv 4) (pe_op op_add pe_int (pe_op op_mul pe_int (pv 2)))) pe_int))
  (pss_one (ps_ret (pe_op op_mod (pe_op op_fdiv (pe_op op_mod (pe_op op_add (pe_op op_mul (pe_op op_fdiv (pv 5) pe_int) pe_int) (pv 2)) pe_int) pe_int) (pv 1)))))))))), ?_⟩
    refine ⟨.ref f, rfl, f, _, 2, _, rfl, rfl, SqL.of ef, at_nat (n := 2) rfl, ?_⟩
    refine ⟨.int t, rfl, t, 1, rfl, rfl, .ref f, rfl, f, _, 2, 2, rfl, rfl, ef, rfl, ?_⟩
    have b1 : SameB f H (upd H f (.lst [.int c, .int l, .int (t + 1)])) := SameB.put
    refine ⟨.ref f, rfl, f, _, 1, _, rfl, rfl, SqL.of upd_same, at_nat (n := 1) rfl, ?_⟩
    refine ⟨.int l, rfl, l, 0, rfl, rfl, _, rfl, ?_⟩
    by_cases h0 : 0 < l
    · rw [decide_eq_true h0]
      refine iteT ?_
      refine ⟨.int l, rfl, .int m, rfl, l, m, rfl, rfl, ⟨hm, by omega⟩, .ref f, rfl, f, _, 1, 1, rfl, rfl, upd_same, rfl, ?_⟩
      refine ⟨.int l, rfl, .int m, rfl, l, m, rfl, rfl, hm, ?_⟩
      refine q _ _ (b1.trans SameB.put) ⟨c, l / m, t + 1, upd_same, Int.ediv_nonneg hl (by omega), by omega, by omega⟩ (Int.emod_nonneg _ (by omega)) (Int.emod_lt_of_pos _ hm)
    · rw [decide_eq_false h0]
      refine iteF ?_
      refine ⟨.ref f, rfl, f, _, 0, _, rfl, rfl, SqL.of upd_same, at_nat (n := 0) rfl, ?_⟩
      refine ⟨c, 2147483647, rfl, rfl, (by decide : (0 : Int) < 2147483647), .int t, rfl, 31, t, rfl, rfl, .inl ⟨by decide, by decide⟩, .int t, rfl, _, t, rfl, rfl, .inr ⟨by omega, by omega⟩, _, _, rfl, rfl, _, 1, rfl, rfl, ?_⟩
      refine ⟨_, rfl, .int t, rfl, 40, t, rfl, rfl, .inl ⟨by decide, by decide⟩, 48271, _, rfl, rfl, _, _, rfl, rfl, .inr ⟨by omega, by omega⟩, _, 2147483629, rfl, rfl, (by decide : (0 : Int) < 2147483629), ?_⟩
      refine ⟨_, rfl, _, 11, rfl, rfl, ⟨by decide, by decide⟩, _, 69621, rfl, rfl, .inr ⟨by decide, by decide⟩, .int t, rfl, _, t, rfl, rfl, _, 998244353, rfl, rfl, (by decide : (0 : Int) < 998244353), _, 7, rfl, rfl, ⟨by decide, by decide⟩, .int m, rfl, _, m, rfl, rfl, hm, ?_⟩
      exact q _ _ b1 ⟨c, l, t + 1, upd_same, hl, by omega, by omega⟩ (Int.emod_nonneg _ (by omega)) (Int.emod_lt_of_pos _ hm)
end
end KH

namespace KH
open PySem PySem.Spec PyProof.Rows L2 KM
section
variable {P : Program} {w : World} {K : PySem.W.Frag} {mg : Str → Option Value} {base : Heap} {ad : Nat → Addr} {fd : Nat → FuncData}
theorem rng_lo {n : Nat} : -(2 ^ 62) ≤ (n : Int) := by omega
theorem rng_hi {n : Nat} (h : n ≤ 100000) : (n : Int) < 2 ^ 62 := by omega
/-! ### _law_begun -/
theorem ok51 (T : Tx K mg ad fd) : FnOk P w K mg base CX0 1 (ad 51) (fd 51) P51 spBegun := by
  have nd := sc51.nd
  refine T.f__law_begun.ok sc51 (fun vs H Q E h => ?_) (fun cdv A outer s H vs Q E hr h => ?_)
  · obtain ⟨a, b, r, c, rfl, _⟩ := h
    rfl
  · obtain ⟨a, b, r, cs, rfl, ⟨sa, ma, ya, ms, hR⟩, ho, hc, hl, q⟩ := h
    refine ⟨_, PSs.nox (pss_cons (ps_setLc (i := 2) (own := [("_law_room", 4)]) (g := (gName 4)) (tt := tYes) (by rfl) nd rfl rfl (sw_true rfl rfl rfl (by decide +kernel)) (pi_range1 (by rfl) T.b_range (pa_cons (pe_ix (KW.ixT K) (pv 0) pe_int (fun _ _ => rfl)) pa_nil)) (blkOk_by (N := N51) (sc := defScope (topS 51)) (by decide +kernel)) (fun _ _ _ _ _ => pg_name (i := 4) nd rfl (Or.inl rfl)) (fun _ _ _ _ _ => pts_nil) (fun _ _ _ _ _ => pe_int))
  (pss_cons (ps_for PassesOwn.never rfl (pi_range1 (by rfl) T.b_range (pa_cons (pe_callB (KW.lenS K) (by rfl) T.b_len (by decide +kernel) (pa_cons (pv 1) pa_nil)) pa_nil)) (pg_name (i := 3) nd rfl (Or.inl rfl))
    (pss_cons (ps_set (i := 4) nd rfl (Or.inl rfl) (pe_ix (KW.ixT K) (pe_ix (KW.ixT K) (pv 0) pe_int (fun _ _ => rfl)) (pv 3) (fun _ _ => rfl)))
  (pss_one (ps_asg (pe_op op_add (pe_ix (KW.ixL K) (pv 2) (pv 4) (fun _ _ => rfl)) (pe_ix (KW.ixT K) (pv 1) (pv 3) (fun _ _ => rfl))) (pg_sub (pv 2) (pv 4) set_list)))))
  (pss_one (ps_ret (pe_callTy (KW.tupO K) (by rfl) T.b_tuple (by decide +kernel) (pa_cons (pv 2) pa_nil)))))), ?_⟩
    have h5 := ho.rooms5
    have h4 := ho.sorts4
    refine ⟨.ref a, rfl, a, _, 0, vn r.rooms, rfl, rfl, SqT.of hR.top, at_nat (n := 0) rfl, (r.rooms : Int), rfl, rng_lo, rng_hi (by omega), fun L nL => lc_pure walk_range (List.range r.rooms) (by simp) (by simp; omega) (fun _ => .int 0) nL (fun _ _ => trivial) (fun i m x H1 H2 KY hi s1 hy ky => ?_) (fun H1 s1 eD => ?_)⟩
    · obtain ⟨rfl, rfl⟩ := hy
      exact ⟨rfl, ky _ (Same.refl _)⟩
    · have eL : H1 L = some (.lst ((begunF r.rooms []).map V.int)) := by
        rw [eD]
        show some (HO.lst ((List.range r.rooms).map fun _ => V.int 0)) = some (HO.lst ((List.replicate r.rooms (0 : Int)).map V.int))
        rw [List.map_const', List.length_range, List.map_replicate]
      have hcl : (cs.map V.int).length = cs.length := List.length_map _
      refine ⟨.ref b, rfl, b, _, rfl, .inr (SqT.of (s1 _ _ hc)), ((cs.map V.int).length : Int), rfl, rng_lo, rng_hi (by omega), ?_⟩
      refine for_it walk_range (fun i σ H2 => ∃ x3 x4, σ = [some (.ref a), some (.ref b), some (.ref L), x3, x4] ∧ Same H H2 ∧ H2 L = some (.lst ((begunF r.rooms ((r.starts.zip cs).take i)).map V.int)))
        ⟨none, none, rfl, s1, eL⟩ (fun i σ H1 _ hp => trivial) (fun i x σ H2 H3 hi hp hy => ?_) (fun σ H2 hp => ?_)
      · obtain ⟨x3, x4, rfl, s3, eH⟩ := hp
        obtain ⟨rfl, rfl⟩ := hy
        have hi2 : i < cs.length := by simpa using hi
        have hi' : i < r.starts.length := by omega
        obtain ⟨st, hst⟩ : ∃ st, r.starts[i]? = some st := ⟨r.starts[i], List.getElem?_eq_getElem hi'⟩
        have hlt := ho.starts st (List.mem_of_getElem? hst)
        have hk := getD_at hi2
        obtain ⟨bl, ebl⟩ : ∃ bl, bl = begunF r.rooms ((r.starts.zip cs).take i) := ⟨_, rfl⟩
        rw [← ebl] at eH
        have hbl : bl.length = r.rooms := by rw [ebl, begunF_len]
        have e0 : (0 : Int) + (i : Nat) = (i : Nat) := by omega
        refine ⟨.ref a, rfl, a, _, 1, _, rfl, rfl, SqT.of (s3 _ _ hR.top), at_nat (n := 1) rfl, _, rfl, sa, _, _, vn st, rfl, rfl, SqT.of (s3 _ _ hR.starts), by rw [e0]; exact at_nat (map_at hst), ?_⟩
        refine ⟨.ref L, rfl, vn st, rfl, L, _, _, _, rfl, rfl, SqL.of eH, list_at (by rw [hbl]; exact hlt), .ref b, rfl, _, rfl, b, _, _, _, rfl, rfl, SqT.of (s3 _ _ hc), by rw [e0]; exact list_at hi2, _, _, rfl, rfl, ?_⟩
        refine ⟨.ref L, rfl, vn st, rfl, L, _, _, st, rfl, rfl, eH, by rw [List.length_map, hbl]; exact ixN_nat hlt, ?_⟩
        refine ⟨_, _, rfl, same_put s3 nL, ?_⟩
        rw [upd_same, set_bump, zip_take_succ hst hk, begunF_snoc, ← ebl]
      · obtain ⟨x3, x4, rfl, s3, eH⟩ := hp
        refine ⟨.ref L, rfl, L, _, rfl, SqL.of eH, fun p np => q _ p (same_put s3 (same_free s3 np)) (same_free s3 np) ?_⟩
        rw [List.take_of_length_le (by rw [List.length_zip]; simp; omega)]
        exact upd_same
/-! ### _law_said -/
theorem ok52 (T : Tx K mg ad fd) : FnOk P w K mg base CX0 1 (ad 52) (fd 52) P52 spSaid := by
  have nd := sc52.nd
  refine T.f__law_said.ok sc52 (fun vs H Q E h => ?_) (fun cdv A outer s H vs Q E hr h => ?_)
  · obtain ⟨a, b, r, c, rfl, _⟩ := h
    rfl
  · obtain ⟨a, b, r, c, rfl, ⟨sa, ma, ya, ms, hR⟩, ho, hc, hl, q⟩ := h
    refine ⟨_, PSs.nox (pss_cons (ps_setLc (i := 2) (own := [("_law_room", 3)]) (g := (gName 3)) (by rfl) nd rfl rfl (sw_true rfl rfl rfl (by decide +kernel)) (pi_range1 (by rfl) T.b_range (pa_cons (pe_ix (KW.ixT K) (pv 0) pe_int (fun _ _ => rfl)) pa_nil)) (blkOk_by (N := N52) (sc := defScope (topS 52)) (by decide +kernel)) (fun _ _ _ _ _ => pg_name (i := 3) nd rfl (Or.inl rfl)) (fun _ _ _ _ _ => pts_one (pt_cmpR op_gt (pe_ix (KW.ixT K) (pv 1) (pv 3) (fun _ _ => rfl)) pe_int (nomark _))) (fun _ _ _ _ _ => (pe_ix (KW.ixT K) (pe_ix (KW.ixT K) (pv 0) pe_int (fun _ _ => rfl)) (pv 3) (fun _ _ => rfl))))
  (pss_cons (ps_if (pt_cmpR (KW.notInS K) pe_bl (pv 2) (by with_unfolding_all rfl))
    (pss_one (ps_ret pe_str))
    pss_nil)
  (pss_one (ps_ret (pe_ifExp (pt_cmpR (KW.inS K) pe_bl (pv 2) (by with_unfolding_all rfl)) pe_str pe_str))))), ?_⟩
    have h5 := ho.rooms5
    have hs := ho.says
    refine ⟨.ref a, rfl, a, _, 0, vn r.rooms, rfl, rfl, SqT.of hR.top, at_nat (n := 0) rfl, (r.rooms : Int), rfl, rng_lo, rng_hi (by omega), fun D nD => lc_filt walk_range (c.zip r.says) (by simp [hl, hs]) (by simp; omega) (fun p => decide (0 < p.1)) (fun p => .bl p.2) nD (fun _ _ => trivial) (fun i m x H1 H2 KY KN hi s1 hy ky kn => ?_) (fun H1 s1 eD => ?_)⟩
    · obtain ⟨rfl, rfl⟩ := hy
      obtain ⟨h1, h2⟩ := List.getElem?_zip_eq_some.mp hi
      have e0 : (0 : Int) + (i : Nat) = (i : Nat) := by omega
      refine ⟨rfl, .ref b, rfl, _, rfl, b, _, _, .int m.1, rfl, rfl, SqT.of (s1 _ _ hc), by rw [e0]; exact at_nat (map_at h1), m.1, 0, rfl, rfl, _, rfl, ?_⟩
      cases hcb : decide (0 < m.1) with
      | true => exact iteT ⟨.ref a, rfl, a, _, 3, _, rfl, rfl, SqT.of (s1 _ _ hR.top), at_nat (n := 3) rfl, _, rfl, ya, _, _, _, rfl, rfl, SqT.of (s1 _ _ hR.says), by rw [e0]; exact at_nat (map_at h2), ky _ hcb (Same.refl _)⟩
      | false => exact iteF (kn _ hcb (Same.refl _))
    · have eD2 : H1 D = some (.lst ((wordsL r c).map V.bl)) := by
        unfold wordsL
        rw [List.map_map]
        exact eD
      refine ⟨.ref D, rfl, D, _, rfl, .inl (SqL.of eD2), rfl, flat_bl _, _, rfl, ?_⟩
      rw [show (if true = true then !inV (V.bl false) ((wordsL r c).map V.bl) else inV (V.bl false) ((wordsL r c).map V.bl)) = !inV (V.bl false) ((wordsL r c).map V.bl) from rfl, inV_bl]
      unfold KM.said at q
      by_cases hf : false ∈ wordsL r c
      · rw [decide_eq_true hf]
        rw [if_pos hf] at q
        refine iteF ⟨.ref D, rfl, D, _, rfl, .inl (SqL.of eD2), rfl, flat_bl _, _, rfl, ?_⟩
        rw [show (if false = true then !inV (V.bl true) ((wordsL r c).map V.bl) else inV (V.bl true) ((wordsL r c).map V.bl)) = inV (V.bl true) ((wordsL r c).map V.bl) from rfl, inV_bl]
        by_cases ht : true ∈ wordsL r c
        · rw [decide_eq_true ht]
          rw [if_pos ht] at q
          exact iteT (q H1 s1)
        · rw [decide_eq_false ht]
          rw [if_neg ht] at q
          exact iteF (q H1 s1)
      · rw [decide_eq_false hf]
        rw [if_neg hf] at q
        exact iteT (q H1 s1)
end
end KH

namespace KH
open PySem PySem.Spec PyProof.Rows L2 KM
section
variable {P : Program} {w : World} {K : PySem.W.Frag} {mg : Str → Option Value} {base : Heap} {ad : Nat → Addr} {fd : Nat → FuncData}
/-! ### _law_holds -/
theorem ok45 (T : Tx K mg ad fd) : ∀ d, FnOk P w K mg base CX0 (d + 1) (ad 45) (fd 45) P45 (spHolds d)
  | 0 => by
    refine (T.f__law_holds.ok (k := 0) sc45 (fun vs H Q E h => ?_) (fun cdv A outer s H vs Q E hr h => ?_))
    · obtain ⟨_, _, _, _, _, _, _, _, h, _⟩ := h
      exact absurd h (Nat.not_lt_zero _)
    · obtain ⟨_, _, _, _, _, _, _, _, h, _⟩ := h
      exact absurd h (Nat.not_lt_zero _)
  | d + 1 => by
    have nd := sc45.nd
    have G45 := ok45 T d
    refine (T.f__law_holds.ok (k := d + 1) sc45 (fun vs H Q E h => ?_) (fun cdv A outer s H vs Q E hr h => ?_))
    · obtain ⟨a, b, qq, cs, rfl, _⟩ := h
      rfl
    · obtain ⟨a, b, qq, cs, rfl, hq, ho, hc, hd, q⟩ := h
      refine ⟨_, PSs.nox (pss_cons (ps_if (pt_cmpR op_eq (pe_ix (KW.ixT K) (pv 0) pe_int (fun _ _ => rfl)) pe_str (nomark _))
    (pss_one (ps_ret (pe_not (pe_call G45 (hr.mono (by omega)) (by rfl) T.g__law_holds T.f__law_holds.kp T.b__law_holds .nil pass0 (pa_cons (pe_ix (KW.ixT K) (pv 0) pe_int (fun _ _ => rfl)) (pa_cons (pv 1) pa_nil))))))
    pss_nil)
  (pss_cons (ps_set (i := 2) nd rfl (Or.inl rfl) (pe_callB (KW.sumL K) (by rfl) T.b_sum (by decide +kernel) (pa_cons (pe_lc (own := [("_law_sort", 3)]) (g := (gName 3)) (tt := tYes) (by rfl) nd (pi_tup (pe_ix (KW.ixT K) (pv 0) pe_int (fun _ _ => rfl))) (blkOk_by (N := N45) (sc := defScope (topS 45)) (by decide +kernel)) (fun _ _ _ _ _ => pg_name (i := 3) nd rfl (Or.inl rfl)) (fun _ _ _ _ _ => pts_nil) (fun _ _ _ _ _ => (pe_ix (KW.ixT K) (pv 1) (pv 3) (fun _ _ => rfl)))) pa_nil)))
  (pss_cons (ps_if (pt_cmpR op_eq (pe_ix (KW.ixT K) (pv 0) pe_int (fun _ _ => rfl)) pe_str (nomark _))
    (pss_one (ps_ret (pe_cmpR op_ge (pv 2) (pe_ix (KW.ixT K) (pv 0) pe_int (fun _ _ => rfl)) (nomark _))))
    pss_nil)
  (pss_cons (ps_if (pt_cmpR op_eq (pe_ix (KW.ixT K) (pv 0) pe_int (fun _ _ => rfl)) pe_str (nomark _))
    (pss_one (ps_ret (pe_cmpR op_gt (pv 2) (pe_callB (KW.sumL K) (by rfl) T.b_sum (by decide +kernel) (pa_cons (pe_lc (own := [("_law_sort", 3)]) (g := (gName 3)) (tt := tYes) (by rfl) nd (pi_tup (pe_ix (KW.ixT K) (pv 0) pe_int (fun _ _ => rfl))) (blkOk_by (N := N45) (sc := defScope (topS 45)) (by decide +kernel)) (fun _ _ _ _ _ => pg_name (i := 3) nd rfl (Or.inl rfl)) (fun _ _ _ _ _ => pts_nil) (fun _ _ _ _ _ => (pe_ix (KW.ixT K) (pv 1) (pv 3) (fun _ _ => rfl)))) pa_nil)) (nomark _))))
    pss_nil)
  (pss_one (ps_ret (pe_cmpR op_eq (pe_op op_mod (pv 2) (pe_ix (KW.ixT K) (pv 0) pe_int (fun _ _ => rfl))) (pe_ix (KW.ixT K) (pv 0) pe_int (fun _ _ => rfl)) (nomark _)))))))), ?_⟩
      have ey : ∀ l : List Nat, (l.map fun i => V.int (cs.getD i 0)) = (l.map fun i => cs.getD i 0).map V.int := fun l => by rw [List.map_map]; rfl
      cases qq with
      | not qi =>
        obtain ⟨t, h1, h2⟩ := hq
        have hd' : qi.dep < d := Nat.lt_of_succ_lt_succ hd
        refine ⟨.ref a, rfl, a, _, 0, _, rfl, rfl, SqT.of h1, at_nat (n := 0) rfl, rfl, _, rfl, strT ?_⟩
        exact ⟨.ref a, rfl, a, _, 1, _, rfl, rfl, SqT.of h1, at_nat (n := 1) rfl, .ref b, rfl, t, b, qi, cs, rfl, h2, ho, hc, hd', fun H1 s1 => ⟨_, rfl, q H1 s1⟩⟩
      | least l n =>
        obtain ⟨t, h1, h2⟩ := hq
        obtain ⟨o1, o2, o3, o4⟩ := ho
        refine ⟨.ref a, rfl, a, _, 0, _, rfl, rfl, SqT.of h1, at_nat (n := 0) rfl, rfl, _, rfl, strF (by decide +kernel) ?_⟩
        refine ⟨.ref a, rfl, a, _, 1, _, rfl, rfl, SqT.of h1, at_nat (n := 1) rfl, t, rfl, ⟨_, SqT.of h2⟩, fun D nD => lc_pure (walk_tup (xs := l.map vn)) l (by simp) (by rw [List.length_map]; omega) (fun i => .int (cs.getD i 0)) nD (fun H1 s1 => SqT.of (s1 _ _ h2)) (fun i x y H1 H2 KY hi s1 hy ky => ?_) (fun H1 s1 eD => ?_)⟩
        · obtain ⟨rfl, hy⟩ := hy
          obtain ⟨x', hx', rfl⟩ := map_at' hy
          rw [hi] at hx'
          cases hx'
          exact ⟨rfl, .ref b, rfl, vn x, rfl, b, _, _, _, rfl, rfl, SqT.of (s1 _ _ hc), list_at (o1 x (List.mem_of_getElem? hi)), ky _ (Same.refl _)⟩
        · rw [ey] at eD
          refine ⟨D, _, rfl, SqL.of eD, ?_⟩
          refine ⟨.ref a, rfl, a, _, 0, _, rfl, rfl, SqT.of (s1 _ _ h1), at_nat (n := 0) rfl, rfl, _, rfl, strT ?_⟩
          exact ⟨_, rfl, .ref a, rfl, a, _, 2, _, rfl, rfl, SqT.of (s1 _ _ h1), at_nat (n := 2) rfl, _, _, rfl, rfl, q H1 s1⟩
      | more l u =>
        obtain ⟨t, v, h1, h2, h3⟩ := hq
        obtain ⟨o1, o2, o3, o4⟩ := ho
        refine ⟨.ref a, rfl, a, _, 0, _, rfl, rfl, SqT.of h1, at_nat (n := 0) rfl, rfl, _, rfl, strF (by decide +kernel) ?_⟩
        refine ⟨.ref a, rfl, a, _, 1, _, rfl, rfl, SqT.of h1, at_nat (n := 1) rfl, t, rfl, ⟨_, SqT.of h2⟩, fun D nD => lc_pure (walk_tup (xs := l.map vn)) l (by simp) (by rw [List.length_map]; omega) (fun i => .int (cs.getD i 0)) nD (fun H1 s1 => SqT.of (s1 _ _ h2)) (fun i x y H1 H2 KY hi s1 hy ky => ?_) (fun H1 s1 eD => ?_)⟩
        · obtain ⟨rfl, hy⟩ := hy
          obtain ⟨x', hx', rfl⟩ := map_at' hy
          rw [hi] at hx'
          cases hx'
          exact ⟨rfl, .ref b, rfl, vn x, rfl, b, _, _, _, rfl, rfl, SqT.of (s1 _ _ hc), list_at (o1 x (List.mem_of_getElem? hi)), ky _ (Same.refl _)⟩
        · rw [ey] at eD
          refine ⟨D, _, rfl, SqL.of eD, ?_⟩
          refine ⟨.ref a, rfl, a, _, 0, _, rfl, rfl, SqT.of (s1 _ _ h1), at_nat (n := 0) rfl, rfl, _, rfl, strF (by decide +kernel) ?_⟩
          refine ⟨.ref a, rfl, a, _, 0, _, rfl, rfl, SqT.of (s1 _ _ h1), at_nat (n := 0) rfl, rfl, _, rfl, strT ?_⟩
          refine ⟨_, rfl, .ref a, rfl, a, _, 2, _, rfl, rfl, SqT.of (s1 _ _ h1), at_nat (n := 2) rfl, v, rfl, ⟨_, SqT.of (s1 _ _ h3)⟩, fun D' nD' => lc_pure (walk_tup (xs := u.map vn)) u (by simp) (by rw [List.length_map]; omega) (fun i => .int (cs.getD i 0)) nD' (fun H2 s2 => SqT.of (s2 _ _ (s1 _ _ h3))) (fun i x y H2 H3 KY hi s2 hy ky => ?_) (fun H2 s2 eD' => ?_)⟩
          · obtain ⟨rfl, hy⟩ := hy
            obtain ⟨x', hx', rfl⟩ := map_at' hy
            rw [hi] at hx'
            cases hx'
            exact ⟨rfl, .ref b, rfl, vn x, rfl, b, _, _, _, rfl, rfl, SqT.of (s2 _ _ (s1 _ _ hc)), list_at (o2 x (List.mem_of_getElem? hi)), ky _ (Same.refl _)⟩
          · rw [ey] at eD'
            exact ⟨D', _, rfl, SqL.of eD', _, _, rfl, rfl, q H2 (s1.trans s2)⟩
      | rest l m r =>
        obtain ⟨t, h1, h2⟩ := hq
        obtain ⟨o1, o2, o3, o4, o5⟩ := ho
        refine ⟨.ref a, rfl, a, _, 0, _, rfl, rfl, SqT.of h1, at_nat (n := 0) rfl, rfl, _, rfl, strF (by decide +kernel) ?_⟩
        refine ⟨.ref a, rfl, a, _, 1, _, rfl, rfl, SqT.of h1, at_nat (n := 1) rfl, t, rfl, ⟨_, SqT.of h2⟩, fun D nD => lc_pure (walk_tup (xs := l.map vn)) l (by simp) (by rw [List.length_map]; omega) (fun i => .int (cs.getD i 0)) nD (fun H1 s1 => SqT.of (s1 _ _ h2)) (fun i x y H1 H2 KY hi s1 hy ky => ?_) (fun H1 s1 eD => ?_)⟩
        · obtain ⟨rfl, hy⟩ := hy
          obtain ⟨x', hx', rfl⟩ := map_at' hy
          rw [hi] at hx'
          cases hx'
          exact ⟨rfl, .ref b, rfl, vn x, rfl, b, _, _, _, rfl, rfl, SqT.of (s1 _ _ hc), list_at (o1 x (List.mem_of_getElem? hi)), ky _ (Same.refl _)⟩
        · rw [ey] at eD
          refine ⟨D, _, rfl, SqL.of eD, ?_⟩
          refine ⟨.ref a, rfl, a, _, 0, _, rfl, rfl, SqT.of (s1 _ _ h1), at_nat (n := 0) rfl, rfl, _, rfl, strF (by decide +kernel) ?_⟩
          refine ⟨.ref a, rfl, a, _, 0, _, rfl, rfl, SqT.of (s1 _ _ h1), at_nat (n := 0) rfl, rfl, _, rfl, strF (by decide +kernel) ?_⟩
          refine ⟨_, rfl, .ref a, rfl, a, _, 2, _, rfl, rfl, SqT.of (s1 _ _ h1), at_nat (n := 2) rfl, _, _, rfl, rfl, (by omega), .ref a, rfl, a, _, 3, _, rfl, rfl, SqT.of (s1 _ _ h1), at_nat (n := 3) rfl, rfl, ?_⟩
          have := q H1 s1
          unfold holdsQ at this
          have e : decide (V.int (handsL l cs % (m : Int)) = vn r) = decide (handsL l cs % (m : Int) = (r : Int)) := by
            by_cases h : handsL l cs % (m : Int) = (r : Int)
            · rw [decide_eq_true h, h]
              exact decide_eq_true rfl
            · rw [decide_eq_false h]
              exact decide_eq_false fun z => h (V.int.inj z)
          rw [← e] at this
          exact this
/-! ### _law_steps -/
def stepsTo (r : Rl) (c : Crowd) (i : Nat) : List (Nat × Crowd) := ((r.meets.zipIdx.take i).filter fun p => canB c p.1).map fun p => (p.2, behind c p.1)
theorem stepsTo_succ {r : Rl} {c : Crowd} {i : Nat} {m : Mt} (h : r.meets[i]? = some m) : stepsTo r c (i + 1) = if canB c m = true then stepsTo r c i ++ [(i, behind c m)] else stepsTo r c i := by
  have hz : r.meets.zipIdx[i]? = some (m, i) := by
    rw [List.getElem?_zipIdx, h]
    simp
  unfold stepsTo
  by_cases hc : canB c m = true
  · rw [filter_take_yes hz hc, if_pos hc, List.map_append]
    rfl
  · rw [filter_take_no hz (by simpa using hc), if_neg hc]
def spSteps : Sp := fun vs H Q _ => ∃ (a b : Addr) (r : Rl) (c : Crowd) (N : Int), vs = [.ref a, .ref b] ∧ IsRule H a r ∧ r.Ok ∧ TI H b c ∧ Cw r.rooms N c ∧
  ∀ H' p, Same H H' → H p = none → StepsAt H' p (stepsL r c) → Q (.ref p) H'
theorem ok48 (T : Tx K mg ad fd) : FnOk P w K mg base CX0 1 (ad 48) (fd 48) P48 spSteps := by
  have nd := sc48.nd
  refine T.f__law_steps.ok sc48 (fun vs H Q E h => ?_) (fun cdv A outer s H vs Q E hr h => ?_)
  · obtain ⟨a, b, r, c, N, rfl, _⟩ := h
    rfl
  · obtain ⟨a, b, r, c, N, rfl, ⟨sa, ma, ya, ms, hR⟩, ho, hc, hcw, q⟩ := h
    refine ⟨_, PSs.nox (pss_cons (ps_set (i := 2) nd rfl (Or.inl rfl) (pe_lst pa_nil))
  (pss_cons (ps_for PassesOwn.never rfl (pi_enumT (by rfl) T.b_enumerate (pa_cons (pe_ix (KW.ixT K) (pv 0) pe_int (fun _ _ => rfl)) pa_nil)) (pg_tup rfl (pgs_cons (pg_name (i := 3) nd rfl (Or.inl rfl)) (pgs_cons (pg_name (i := 4) nd rfl (Or.inl rfl)) pgs_nil)))
    (pss_cons (ps_set (i := 5) nd rfl (Or.inl rfl) (pe_callTy (KW.lstO K) (by rfl) T.b_list (by decide +kernel) (pa_cons (pv 1) pa_nil)))
  (pss_cons (ps_for PassesOwn.never rfl (pi_tup (pe_slice (KW.slA K) (pv 4) po_none (po_some pe_int))) (pg_name (i := 6) nd rfl (Or.inl rfl))
    (pss_one (ps_asg (pe_op op_sub (pe_ix (KW.ixL K) (pv 5) (pv 6) (fun _ _ => rfl)) pe_int) (pg_sub (pv 5) (pv 6) set_list))))
  (pss_one (ps_if (pt_cmpR op_ge (pe_callB (KW.minL K) (by rfl) T.b_min (by decide +kernel) (pa_cons (pv 5) pa_nil)) pe_int (nomark _))
    (pss_cons (ps_for PassesOwn.never rfl (pi_tup (pe_slice (KW.slA K) (pv 4) (po_some pe_int) po_none)) (pg_name (i := 6) nd rfl (Or.inl rfl))
    (pss_one (ps_asg (pe_op op_add (pe_ix (KW.ixL K) (pv 5) (pv 6) (fun _ _ => rfl)) pe_int) (pg_sub (pv 5) (pv 6) set_list))))
  (pss_one (ps_expr (pe_bm PySem.F.plainAttrs_list PySem.F.slot_list_append PySem.F.type_list_append mt_append (pv 2) (pa_cons (pe_tup (pa_cons (pv 3) (pa_cons (pe_callTy (KW.tupO K) (by rfl) T.b_tuple (by decide +kernel) (pa_cons (pv 5) pa_nil)) pa_nil))) pa_nil)))))
    pss_nil)))))
  (pss_one (ps_ret (pv 2))))), ?_⟩
    have hl := hcw.len
    have h1 := ho.rooms1
    refine ⟨Nat.zero_le _, fun F nF => ?_⟩
    have s1 : Same H (upd H F (.lst [])) := same_new nF
    have hml : ms.length = r.meets.length := Paired.length hR.each
    refine ⟨.ref a, rfl, a, _, 2, _, rfl, rfl, SqT.of (s1 _ _ hR.top), at_nat (n := 2) rfl, ma, _, rfl, SqT.of (s1 _ _ hR.meets), ?_⟩
    refine for_it (walk_enumT (xs := ms.map V.ref)) (fun i σ H1 => ∃ x3 x4 x5 x6, σ = [some (.ref a), some (.ref b), some (.ref F), x3, x4, x5, x6] ∧ Same H H1 ∧ StepsAt H1 F (stepsTo r c i))
      ⟨none, none, none, none, rfl, s1, [], upd_same, .nil⟩ (fun i σ H1 _ hp => ?_) (fun i x σ H1 H2 hi hp hy => ?_) (fun σ H1 hp => ?_)
    · obtain ⟨_, _, _, _, _, s3, _⟩ := hp
      exact SqT.of (s3 _ _ hR.meets)
    · obtain ⟨x3, x4, x5, x6, rfl, s3, ts, eF, pts⟩ := hp
      obtain ⟨t, u, v, rfl, nt, rfl, hu, hv⟩ := hy
      cases hu
      obtain ⟨mb, hmb, rfl⟩ := map_at' hv
      obtain ⟨m, hm, hM⟩ := paired_at' hR.each hmb
      have hmo := ho.meets m (List.mem_of_getElem? hm)
      have htsl : ts.length ≤ 100 := by
        have e1 := Paired.length pts
        have e2 : (stepsTo r c i).length ≤ i := by
          unfold stepsTo
          rw [List.length_map]
          exact Nat.le_trans (List.length_filter_le _ _) (by rw [List.length_take]; exact Nat.min_le_left _ _)
        have e3 := ho.many
        have e4 : i < r.meets.length := (List.getElem?_eq_some_iff.mp hm).1
        omega
      have ht0 := same_free s3 nt
      have hFt : F ≠ t := fun z => by rw [← z, eF] at nt; cases nt
      have s4 := same_new (o := .tup [.int (i : Nat), .ref mb]) nt
      refine ⟨t, _, rfl, SqT.of upd_same, rfl, _, _, rfl, _, _, rfl, rfl, ?_⟩
      obtain ⟨H3, eH3⟩ : ∃ H3, H3 = upd H1 t (.tup [.int (i : Nat), .ref mb]) := ⟨_, rfl⟩
      rw [← eH3] at s4 ⊢
      have s13 := s3.trans s4
      have eF3 := s4 _ _ eF
      have pts3 : Paired (StepAt H3) ts (stepsTo r c i) := paired_imp (fun _ _ h => h.te (tsS s4)) pts
      refine ⟨.ref b, rfl, b, _, rfl, .inr (SqT.of (s13 _ _ hc)), fun L nL => ?_⟩
      have nL0 := same_free s13 nL
      have hLF : L ≠ F := fun z => by rw [z, eF3] at nL; cases nL
      have s5 : Same H3 (upd H3 L (.lst (c.map V.int))) := same_new nL
      have s15 := s13.trans s5
      refine ⟨.ref mb, rfl, 2, rfl, mb, _, rfl, SqT.of (s15 _ _ hM), fun z => absurd z (show ¬ (HT.sIx 4 0 none = 0 ∧ HT.sIx 4 4 (some 2) = 4) by decide), fun _ p np => ?_⟩
      have hpH := same_free s15 np
      have hp3 := same_free s5 np
      have hpL : p ≠ L := fun e => by rw [e, upd_same] at np; cases np
      have hpF : p ≠ F := fun e => by rw [e, eF3] at hp3; cases hp3
      rw [show cutV [vn m.a, vn m.b, vn m.c, vn m.d] none (some 2) = [vn m.a, vn m.b] from rfl]
      have s6 : Same H3 (upd (upd H3 L (.lst (c.map V.int))) p (.tup [vn m.a, vn m.b])) := same_put s5 hp3
      refine ⟨p, rfl, ⟨_, SqT.of upd_same⟩, for_it (walk_tup (xs := [vn m.a, vn m.b])) (fun j σ H5 => ∃ x6, σ = [some (.ref a), some (.ref b), some (.ref F), some (.int (i : Nat)), some (.ref mb), some (.ref L), x6] ∧ Same H3 H5 ∧ H5 p = some (.tup [vn m.a, vn m.b]) ∧ H5 L = some (.lst (([c, bmp c m.a (-1), cut2 c m].getD j []).map V.int)))
        ⟨_, rfl, s6, upd_same, by rw [upd_ne hpL.symm, upd_same]; rfl⟩ (fun j σ H5 _ hp => ?_) (fun j x σ H5 H6 hj hp hy => ?_) (fun σ H5 hp => ?_)⟩
      · obtain ⟨_, _, _, e, _⟩ := hp
        exact SqT.of e
      · obtain ⟨x6, rfl, s7, e3, eL⟩ := hp
        obtain ⟨rfl, hx⟩ := hy
        match j, hj, hx, eL with
        | 0, _, hx, eL =>
          cases hx
          have hA : m.a < c.length := by rw [hl]; exact hmo.a
          refine ⟨.ref L, rfl, vn m.a, rfl, L, _, _, _, rfl, rfl, SqL.of eL, list_at hA, _, 1, rfl, rfl, ?_⟩
          refine ⟨.ref L, rfl, vn m.a, rfl, L, _, _, m.a, rfl, rfl, eL, by rw [List.length_map]; exact ixN_nat hA, ?_⟩
          refine ⟨_, rfl, same_put s7 nL, by rw [upd_ne hpL]; exact e3, ?_⟩
          rw [upd_same]
          exact congrArg (fun z => some (HO.lst z)) (set_bump (l := c) (i := m.a) (k := -1))
        | 1, _, hx, eL =>
          cases hx
          have hB : m.b < (bmp c m.a (-1)).length := by rw [bmp_len, hl]; exact hmo.b
          refine ⟨.ref L, rfl, vn m.b, rfl, L, _, _, _, rfl, rfl, SqL.of eL, list_at hB, _, 1, rfl, rfl, ?_⟩
          refine ⟨.ref L, rfl, vn m.b, rfl, L, _, _, m.b, rfl, rfl, eL, by rw [List.length_map]; exact ixN_nat hB, ?_⟩
          refine ⟨_, rfl, same_put s7 nL, by rw [upd_ne hpL]; exact e3, ?_⟩
          rw [upd_same]
          exact congrArg (fun z => some (HO.lst z)) (set_bump (l := bmp c m.a (-1)) (i := m.b) (k := -1))
      · obtain ⟨x6, rfl, s7, e3, eL⟩ := hp
        have eL2 : H5 L = some (.lst ((cut2 c m).map V.int)) := eL
        have hlen2 : (cut2 c m).length = r.rooms := by rw [cut2_len, hl]
        have eF5 := s7 _ _ eF3
        have s17 := s13.trans s7
        refine ⟨.ref L, rfl, L, cut2 c m, rfl, SqL.of eL2, by omega, fun mn hmn hle => ⟨mn, 0, rfl, rfl, _, rfl, ?_⟩⟩
        have hpos := cut2_pos hmo hl hcw.pos
        by_cases hmn0 : 0 ≤ mn
        · rw [decide_eq_true hmn0]
          have hcb : canB c m = true := hpos.mp fun x hx => by have := hle x hx; omega
          refine iteT ?_
          have hM5 := s17 _ _ hM
          refine ⟨.ref mb, rfl, 2, rfl, mb, _, rfl, SqT.of hM5, fun z => absurd z (show ¬ (HT.sIx 4 0 (some 2) = 0 ∧ HT.sIx 4 4 none = 4) by decide), fun _ p2 np2 => ?_⟩
          have hp23 := same_free s7 np2
          have hpL2 : p2 ≠ L := fun e => by rw [e, eL2] at np2; cases np2
          rw [show cutV [vn m.a, vn m.b, vn m.c, vn m.d] (some 2) none = [vn m.c, vn m.d] from rfl]
          have s8 : Same H3 (upd H5 p2 (.tup [vn m.c, vn m.d])) := same_put s7 hp23
          refine ⟨p2, rfl, ⟨_, SqT.of upd_same⟩, for_it (walk_tup (xs := [vn m.c, vn m.d])) (fun j σ H6 => ∃ x6, σ = [some (.ref a), some (.ref b), some (.ref F), some (.int (i : Nat)), some (.ref mb), some (.ref L), x6] ∧ Same H3 H6 ∧ H6 p2 = some (.tup [vn m.c, vn m.d]) ∧ H6 L = some (.lst (([cut2 c m, bmp (cut2 c m) m.c 1, behind c m].getD j []).map V.int)))
            ⟨_, rfl, s8, upd_same, by rw [upd_ne hpL2.symm]; exact eL2⟩ (fun j σ H6 _ hp => ?_) (fun j x σ H6 H7 hj hp hy => ?_) (fun σ H6 hp => ?_)⟩
          · obtain ⟨_, _, _, e, _⟩ := hp
            exact SqT.of e
          · obtain ⟨x6, rfl, s7, e3, eL⟩ := hp
            obtain ⟨rfl, hx⟩ := hy
            match j, hj, hx, eL with
            | 0, _, hx, eL =>
              cases hx
              have hA : m.c < (cut2 c m).length := by rw [cut2_len, hl]; exact hmo.c
              refine ⟨.ref L, rfl, vn m.c, rfl, L, _, _, _, rfl, rfl, SqL.of eL, list_at hA, _, 1, rfl, rfl, ?_⟩
              refine ⟨.ref L, rfl, vn m.c, rfl, L, _, _, m.c, rfl, rfl, eL, by rw [List.length_map]; exact ixN_nat hA, ?_⟩
              refine ⟨_, rfl, same_put s7 nL, by rw [upd_ne hpL2]; exact e3, ?_⟩
              rw [upd_same]
              exact congrArg (fun z => some (HO.lst z)) (set_bump (l := cut2 c m) (i := m.c) (k := 1))
            | 1, _, hx, eL =>
              cases hx
              have hB : m.d < (bmp (cut2 c m) m.c 1).length := by rw [bmp_len, cut2_len, hl]; exact hmo.d
              refine ⟨.ref L, rfl, vn m.d, rfl, L, _, _, _, rfl, rfl, SqL.of eL, list_at hB, _, 1, rfl, rfl, ?_⟩
              refine ⟨.ref L, rfl, vn m.d, rfl, L, _, _, m.d, rfl, rfl, eL, by rw [List.length_map]; exact ixN_nat hB, ?_⟩
              refine ⟨_, rfl, same_put s7 nL, by rw [upd_ne hpL2]; exact e3, ?_⟩
              rw [upd_same]
              exact congrArg (fun z => some (HO.lst z)) (set_bump (l := bmp (cut2 c m) m.c 1) (i := m.d) (k := 1))
          · obtain ⟨x6', rfl, s9, _, eL⟩ := hp
            have eL3 : H6 L = some (.lst ((behind c m).map V.int)) := eL
            have eF6 := s9 _ _ eF3
            refine ⟨.ref F, rfl, .inl ⟨rfl, _, SqL.of eF6⟩, _, rfl, .ref L, rfl, L, _, rfl, SqL.of eL3, fun q1 nq1 => ⟨by show 2 ≤ sizeLine; decide, fun q2 nq2 => ?_⟩⟩
            have r1 := same_new (o := .tup ((behind c m).map V.int)) nq1
            have r2 := same_new (o := .tup [.int (i : Nat), .ref q1]) nq2
            have r12 := (s9.trans r1).trans r2
            have eF7 := r12 _ _ eF3
            have t8 := Ts.put (o := .lst (ts.map V.ref ++ [V.ref q2])) eF7 rfl
            refine ⟨F, _, _, rfl, rfl, eF7, small (by rw [List.length_map]; omega), ?_⟩
            refine ⟨_, _, _, _, rfl, same_put (s13.trans r12) nF, ts ++ [q2], ?_, ?_⟩
            · rw [upd_same, List.map_append]
              rfl
            · rw [stepsTo_succ hm, if_pos hcb]
              refine paired_snoc (paired_imp (fun _ _ h => h.te ((tsS r12).trans t8)) pts3) ⟨q1, t8.tup upd_same, t8.tup (r2 _ _ upd_same)⟩
        · rw [decide_eq_false hmn0]
          have hcb : ¬ canB c m = true := fun z => hmn0 (hpos.mpr z mn hmn)
          refine iteF ⟨_, _, _, _, rfl, s17, ts, eF5, ?_⟩
          rw [stepsTo_succ hm, if_neg hcb]
          exact paired_imp (fun _ _ h => h.te (tsS s7)) pts3
    · obtain ⟨_, _, _, _, rfl, s3, hF⟩ := hp
      refine ⟨.ref F, rfl, q H1 F s3 nF ?_⟩
      have e : stepsTo r c (ms.map V.ref).length = stepsL r c := by
        unfold stepsTo stepsL canP
        rw [List.length_map, hml, List.take_of_length_le (by rw [List.length_zipIdx]; exact Nat.le_refl _)]
      rw [← e]
      exact hF
end
end KH

namespace KH
open PySem PySem.Spec PyProof.Rows L2 KM
variable {K : PySem.W.Frag} {H : Hp}
def dInts (c : List Int) : PyData := .tuple (c.map .int)
theorem dp_ints : ∀ c : List Int, DpAll K H (c.map V.int) (c.map .int)
  | [] => .nil
  | x :: c => .cons (.int x) (dp_ints c)
theorem dp_ti {b : Addr} {c : List Int} (h : TI H b c) : Dp K H (.ref b) (dInts c) := .tup (SqT.of h) (dp_ints c)
theorem dp_all {α : Type} {R : Addr → α → Prop} {f : α → PyData} (hf : ∀ b c, R b c → Dp K H (.ref b) (f c)) : ∀ {bs : List Addr} {cs : List α}, Paired R bs cs → DpAll K H (bs.map V.ref) (cs.map f)
  | _, _, .nil => .nil
  | _, _, .cons h t => .cons (hf _ _ h) (dp_all hf t)
theorem dp_crowds {L : Addr} {cs : List Crowd} (h : CrowdsAt H L cs) : Dp K H (.ref L) (.list (cs.map dInts)) := by
  obtain ⟨bs, h1, h2⟩ := h
  exact .lst (SqL.of h1) (dp_all (fun b c q => dp_ti q) h2)
def dStep (s : Nat × Crowd) : PyData := .tuple [.int s.1, dInts s.2]
theorem dp_step {t : Addr} {s : Nat × Crowd} (h : StepAt H t s) : Dp K H (.ref t) (dStep s) := by
  obtain ⟨b, h1, h2⟩ := h
  exact .tup (SqT.of h1) (.cons (.int _) (.cons (dp_ti h2) .nil))
theorem dp_steps {L : Addr} {ss : List (Nat × Crowd)} (h : StepsAt H L ss) : Dp K H (.ref L) (.list (ss.map dStep)) := by
  obtain ⟨bs, h1, h2⟩ := h
  exact .lst (SqL.of h1) (dp_all (fun b c q => dp_step q) h2)
theorem dp_none {L : Addr} (h : H L = some (.lst [])) : Dp K H (.ref L) (.list []) := .lst (SqL.of h) .nil
theorem lay_ints : ∀ c : List Int, PyData.canLayAll0 (c.map .int) = true ∧ PyData.depthAll (c.map .int) ≤ 1
  | [] => by simp [PyData.canLayAll0, PyData.depthAll]
  | x :: c => by
    obtain ⟨h1, h2⟩ := lay_ints c
    simp only [List.map_cons, PyData.canLayAll0, PyData.depthAll, PyData.canLay0, PyData.depth, h1]
    refine ⟨rfl, ?_⟩
    omega
theorem lay_dInts (c : List Int) : (dInts c).canLay0 = true ∧ (dInts c).depth ≤ 2 := by
  obtain ⟨h1, h2⟩ := lay_ints c
  unfold dInts
  simp only [PyData.canLay0, PyData.depth, h1]
  refine ⟨trivial, ?_⟩
  omega
theorem lay_dStep (s : Nat × Crowd) : (dStep s).canLay0 = true ∧ (dStep s).depth ≤ 3 := by
  obtain ⟨h1, h2⟩ := lay_dInts s.2
  unfold dStep
  simp only [PyData.canLay0, PyData.canLayAll0, PyData.depth, PyData.depthAll, h1]
  refine ⟨rfl, ?_⟩
  omega
theorem lay_all {α : Type} {f : α → PyData} (hf : ∀ a, (f a).canLay0 = true ∧ (f a).depth ≤ 3) : ∀ l : List α, PyData.canLayAll0 (l.map f) = true ∧ PyData.depthAll (l.map f) ≤ 3
  | [] => by simp [PyData.canLayAll0, PyData.depthAll]
  | x :: c => by
    obtain ⟨h1, h2⟩ := lay_all hf c
    obtain ⟨h3, h4⟩ := hf x
    simp only [List.map_cons, PyData.canLayAll0, PyData.depthAll, h1, h3]
    refine ⟨rfl, ?_⟩
    omega
theorem shaped_of {d : PyData} {n : Nat} (h1 : d.canLay0 = true) (h2 : d.depth ≤ n) (hn : n ≤ 64) : SeqAt.shaped d = true := by
  unfold SeqAt.shaped
  rw [h1, decide_eq_true (Nat.le_trans h2 hn)]
  rfl
theorem shaped_list {α : Type} {f : α → PyData} (hf : ∀ a, (f a).canLay0 = true ∧ (f a).depth ≤ 3) (l : List α) : SeqAt.shaped (.list (l.map f)) = true := by
  obtain ⟨h1, h2⟩ := lay_all hf l
  refine shaped_of (n := 4) ?_ ?_ (by decide)
  · simp only [PyData.canLay0]
    exact h1
  · simp only [PyData.depth]
    omega
theorem dInts3 (c : Crowd) : (dInts c).canLay0 = true ∧ (dInts c).depth ≤ 3 := ⟨(lay_dInts c).1, Nat.le_trans (lay_dInts c).2 (by decide)⟩
theorem shaped_ints (c : List Int) : SeqAt.shaped (dInts c) = true := shaped_of (lay_dInts c).1 (lay_dInts c).2 (by decide)
theorem shaped_nil : SeqAt.shaped (.list []) = true := shaped_of (n := 4) (by simp [PyData.canLay0, PyData.canLayAll0]) (by simp [PyData.depth, PyData.depthAll]) (by decide)
theorem eqv_nil {α : Type} (f : α → PyData) (l : List α) : PyData.eqv (.list (l.map f)) (.list []) = decide (l = []) := by
  cases l with
  | nil => simp [PyData.eqv, PyData.eqvAll]
  | cons x l => simp [PyData.eqv, PyData.eqvAll]
theorem eqv_ints : ∀ c d : List Int, PyData.eqvAll (c.map .int) (d.map .int) = decide (c = d)
  | [], [] => by simp [PyData.eqvAll]
  | [], y :: d => by simp [PyData.eqvAll]
  | x :: c, [] => by simp [PyData.eqvAll]
  | x :: c, y :: d => by
    rw [List.map_cons, List.map_cons, PyData.eqvAll, eqv_ints c d]
    by_cases h : x = y
    · subst h
      simp [PyData.eqv]
    · simp [PyData.eqv, h]
theorem eqv_dInts (c d : List Int) : PyData.eqv (dInts c) (dInts d) = decide (c = d) := by
  unfold dInts
  rw [PyData.eqv]
  exact eqv_ints c d
theorem any_crowd (c : Crowd) (cs : List Crowd) : (cs.map dInts).any (fun z => PyData.eqv z (dInts c)) = decide (c ∈ cs) := by
  induction cs with
  | nil => simp
  | cons x cs ih =>
    rw [List.map_cons, List.any_cons, ih, eqv_dInts]
    by_cases h : x = c
    · subst h; simp
    · simp [h, Ne.symm h]
/-- line != [] -/
theorem ne_nil {L N : Addr} {α : Type} {f : α → PyData} {l : List α} {Q : VK} (hf : ∀ a, (f a).canLay0 = true ∧ (f a).depth ≤ 3) (hL : Dp K H (.ref L) (.list (l.map f))) (hN : H N = some (.lst [])) (q : Q (.bl (!decide (l = []))) H) : rNeD K (.ref L) (.ref N) H Q :=
  ⟨_, _, hL, dp_none hN, shaped_list hf l, shaped_nil, by rw [eqv_nil]; exact q⟩
end KH

namespace KH
open PySem PySem.Spec PyProof.Rows L2 KM
section
variable {P : Program} {w : World} {K : PySem.W.Frag} {mg : Str → Option Value} {base : Heap} {ad : Nat → Addr} {fd : Nat → FuncData}
theorem paired_unsnoc {α β : Type} {R : α → β → Prop} : ∀ {l : List α} {m : List β} {b : β}, Paired R l (m ++ [b]) → ∃ l' a, l = l' ++ [a] ∧ Paired R l' m ∧ R a b
  | _, [], _, .cons h .nil => ⟨[], _, rfl, .nil, h⟩
  | _, x :: m, b, .cons h t => by
    obtain ⟨l', a, e, h1, h2⟩ := paired_unsnoc (m := m) t
    exact ⟨_ :: l', a, by rw [e]; rfl, .cons h h1, h2⟩
theorem paired_app {α β : Type} {R : α → β → Prop} {l l' : List α} {m m' : List β} (h : Paired R l m) (h' : Paired R l' m') : Paired R (l ++ l') (m ++ m') := by
  induction h with
  | nil => exact h'
  | cons x t ih => exact .cons x ih
/-! ### _law_all -/
def spAll : Sp := fun vs H Q _ => ∃ (a b : Addr) (r : Rl) (c : Crowd) (N : Int), vs = [.ref a, .ref b] ∧ IsRule H a r ∧ r.Ok ∧ TI H b c ∧ Cw r.rooms N c ∧ N ≤ 4 ∧
  ∀ H' d ks, Same H H' → H d = none → GraphAt H' d r ks → (∀ x, x ∈ ks ↔ Rch r c x) → Q (.ref d) H'
structure ASt (H0 : Hp) (a b : Addr) (F L : Addr) (r : Rl) (c : Crowd) (ps : List (List Int × V)) (Ln : List Crowd) (σ : L2.St) (H : Hp) : Prop where
  slots : ∃ x4 x5 x6, σ = [some (.ref a), some (.ref b), some (.ref F), some (.ref L), x4, x5, x6]
  same : Same H0 H
  eF : H F = some (.dT (asg ps))
  eL : CrowdsAt H L Ln
  gb : GB H r (fun x => x = L) ps
  inv : AInv r c (ps.map (·.1)) Ln
  len : Ln.length ≤ 1 + 100 * ps.length
theorem ok49 (T : Tx K mg ad fd) : FnOk P w K mg base CX0 2 (ad 49) (fd 49) P49 spAll := by
  have nd := sc49.nd
  have G48 := ok48 (P := P) (w := w) (base := base) T
  refine T.f__law_all.ok sc49 (fun vs H Q E h => ?_) (fun cdv A outer s H vs Q E hr h => ?_)
  · obtain ⟨a, b, r, c, N, rfl, _⟩ := h
    rfl
  · obtain ⟨a, b, r, c, N, rfl, hR, ho, hb, hc, hN, q⟩ := h
    refine ⟨_, PSs.nox (pss_cons (ps_set (i := 2) nd rfl (Or.inl rfl) pe_dnewT)
  (pss_cons (ps_set (i := 3) nd rfl (Or.inl rfl) (pe_lst (pa_cons (pv 1) pa_nil)))
  (pss_cons (ps_while PassesOwn.never (pt_cmpR (KW.neDp K (hu_eq hr)) (pv 3) (pe_lst pa_nil) (nomark _))
    (pss_cons (ps_set (i := 4) nd rfl (Or.inl rfl) (pe_bm0 PySem.F.plainAttrs_list PySem.F.slot_list_pop PySem.F.type_list_pop mt_pop (pv 3)))
  (pss_one (ps_if (pt_cmp (pc_dnotin (hu_of hr) (pv 4) (pv 2)))
    (pss_cons (ps_dput (hu_of hr) (pv 2) (pv 4) (pe_call G48 (hr.mono (by decide)) (by rfl) T.g__law_steps T.f__law_steps.kp T.b__law_steps .nil pass0 (pa_cons (pv 0) (pa_cons (pv 4) pa_nil))) rfl)
  (pss_one (ps_expr (pe_bm PySem.F.plainAttrs_list PySem.F.slot_list_extend PySem.F.type_list_extend mt_extend (pv 3) (pa_cons (pe_lc (own := [("_law_number", 5), ("_law_later", 6)]) (g := (gTup K 2 (gCons (gName 5) (gCons (gName 6) gNil)))) (tt := tYes) (by rfl) nd (pi_list (pe_dget (hu_of hr) (pv 2) (pv 4) (fun _ _ => rfl))) (blkOk_by (N := N49) (sc := defScope (topS 49)) (by decide +kernel)) (fun _ _ _ _ _ => pg_tup rfl (pgs_cons (pg_name (i := 5) nd rfl (Or.inl rfl)) (pgs_cons (pg_name (i := 6) nd rfl (Or.inl rfl)) pgs_nil))) (fun _ _ _ _ _ => pts_nil) (fun _ _ _ _ _ => (pv 6))) pa_nil)))))
    pss_nil))))
  (pss_one (ps_ret (pv 2)))))), ?_⟩
    intro F nF
    have s1 : Same H (upd H F (.dT [])) := same_new nF
    refine ⟨.ref b, rfl, by show 1 ≤ sizeLine; decide, fun L nL => ?_⟩
    have nL0 := same_free s1 nL
    have hLF : L ≠ F := fun e => by rw [e, upd_same] at nL; cases nL
    have s2 := same_put (o := .lst [.ref b]) s1 nL0
    refine ⟨fun m σ H1 => ∃ ps Ln, m = (131 - ps.length) * 101 + Ln.length ∧ ASt H a b F L r c ps Ln σ H1,
      ⟨_, [], [c], rfl, ⟨none, none, none, rfl⟩, s2, by rw [upd_ne hLF.symm, upd_same]; rfl, ⟨[b], upd_same, .cons (s2 _ _ hb) .nil⟩, fun p hp => (nomatch hp), AInv.start r c, by show 1 ≤ 1; decide⟩, fun m σ H1 hW => ?_⟩
    obtain ⟨ps, Ln, rfl, ⟨⟨x4, x5, x6, rfl⟩, hs, eF, eL, gb, inv, hln⟩⟩ := hW
    refine ⟨.ref L, rfl, Nat.zero_le _, fun Nn nNn => ne_nil dInts3 (dp_crowds (eL.same (same_new nNn))) upd_same ⟨_, rfl, ?_⟩⟩
    have hps : ps.length ≤ 130 := by
      have := crowds_few ho.rooms5 hN inv.nd fun x hx => reach_ok ho hc (inv.rf x hx)
      rw [List.length_map] at this
      exact this
    have s3 : Same H1 (upd H1 Nn (.lst [])) := same_new nNn
    have hs3 := hs.trans s3
    have eL3 := eL.same s3
    have eF3 := s3 _ _ eF
    have gb3 := gb.same s3
    obtain ⟨H3, eH3⟩ : ∃ H3, H3 = upd H1 Nn (.lst []) := ⟨_, rfl⟩
    rw [← eH3] at s3 hs3 eL3 eF3 gb3 ⊢
    rcases List.eq_nil_or_concat Ln with hn | ⟨Ln', x, hn⟩
    · subst hn
      rw [decide_eq_true rfl]
      refine iteF ⟨.ref F, rfl, q H3 F (ps.map (·.1)) hs3 nF ⟨ps, eF3, rfl, inv.nd, ?_⟩ inv.done⟩
      exact gb3.mono (fun l _ h => h.elim)
    · rw [List.concat_eq_append] at hn
      subst hn
      rw [decide_eq_false (by simp)]
      refine iteT ⟨fun σ' H' => ∃ ps' Ln2, (131 - ps'.length) * 101 + Ln2.length < (131 - ps.length) * 101 + (Ln' ++ [x]).length ∧ ASt H a b F L r c ps' Ln2 σ' H', fun σ' H' hN' => ?_, ?_⟩
      · obtain ⟨ps', Ln2, e1, e2⟩ := hN'
        exact ⟨_, e1, ps', Ln2, rfl, e2⟩
      obtain ⟨bs0, eL3', pL⟩ := eL3
      obtain ⟨bs, xb, rfl, pbs, etx⟩ := paired_unsnoc pL
      rw [List.map_append] at eL3'
      have hlast : (bs.map V.ref ++ [xb].map V.ref)[(bs.map V.ref ++ [xb].map V.ref).length - 1]? = some (.ref xb) := by simp
      refine ⟨.ref L, rfl, .inl ⟨rfl, _, SqL.of eL3'⟩, L, _, .ref xb, rfl, rfl, eL3', hlast, ?_⟩
      have hdl : (bs.map V.ref ++ [xb].map V.ref).dropLast = bs.map V.ref := by simp
      rw [hdl]
      have t4 : Ts H3 (upd H3 L (.lst (bs.map V.ref))) := Ts.put eL3' rfl
      have b4 : SameB L H3 (upd H3 L (.lst (bs.map V.ref))) := SameB.put
      have s4 : Same H (upd H3 L (.lst (bs.map V.ref))) := same_put hs3 nL0
      have eL4 : (upd H3 L (.lst (bs.map V.ref))) L = some (.lst (bs.map V.ref)) := upd_same
      obtain ⟨H4, eH4⟩ : ∃ H4, H4 = upd H3 L (.lst (bs.map V.ref)) := ⟨_, rfl⟩
      rw [← eH4] at t4 b4 s4 eL4 ⊢
      have eF4 := b4 _ _ hLF.symm eF3
      have gb4 := gb3.keep b4 t4 (fun l _ h => h)
      have pbs4 : Paired (TI H4) bs Ln' := paired_imp (fun _ _ h => t4.tup h) pbs
      have etx4 := t4.tup etx
      refine ⟨.ref xb, rfl, .ref F, rfl, F, _, rfl, dget_c eF4 etx4, _, rfl, ?_⟩
      rw [valV_some_iff]
      by_cases hm : x ∈ ps.map (·.1)
      · rw [decide_eq_true hm]
        exact iteF ⟨ps, Ln', by rw [List.length_append]; simp, ⟨_, _, _, rfl⟩, s4, eF4, ⟨bs, eL4, pbs4⟩, gb4, inv.skip hm, by rw [List.length_append] at hln; omega⟩
      · rw [decide_eq_false hm]
        have hxr := inv.rl x (by simp)
        have hxc := reach_ok ho hc hxr
        refine iteT ⟨.ref a, rfl, .ref xb, rfl, a, xb, r, x, N, rfl, hR.te (tsS s4), ho, etx4, hxc, fun H5 D s5 nD hD => ?_⟩
        have hDL : D ≠ L := fun z => by rw [z, eL4] at nD; cases nD
        have hDF : D ≠ F := fun z => by rw [z, eF4] at nD; cases nD
        have eF5 := s5 _ _ eF4
        have eL5 := s5 _ _ eL4
        have s05 := s4.trans s5
        refine ⟨.ref F, rfl, .ref xb, rfl, F, _, rfl, dput_c eF5 (s5 _ _ etx4) (small (by omega)), ?_⟩
        rw [putK_new' _ hm]
        obtain ⟨H6, eH6⟩ : ∃ H6, H6 = upd H5 F (.dT (asg (ps ++ [(x, .ref D)]))) := ⟨_, rfl⟩
        have t6 : Ts H5 H6 := by rw [eH6]; exact Ts.put eF5 rfl
        have b6 : SameB F H5 H6 := by rw [eH6]; exact SameB.put
        have eF6 : H6 F = some (.dT (asg (ps ++ [(x, .ref D)]))) := by rw [eH6]; exact upd_same
        have s06 : Same H H6 := by rw [eH6]; exact same_put s05 nF
        rw [← eH6]
        have gb6 : GB H6 r (fun z => z = L) (ps ++ [(x, .ref D)]) := fun p hp => by
          rcases List.mem_append.mp hp with h | h
          · exact (gb4.same s5).keep b6 t6 (fun l hl _ z => by obtain ⟨xs, e⟩ := hl; rw [z, eF5] at e; cases e) p h
          · rw [List.mem_singleton.mp h]
            exact ⟨D, rfl, hDL, hD.keep b6 t6 hDF⟩
        have hget : valV (ps ++ [(x, V.ref D)]) x = some (.ref D) := by
          rw [← putK_new' (V.ref D) hm, valV_put, if_pos rfl]
        have eL6 := b6 _ _ hLF eL5
        obtain ⟨ts, hD6, pts⟩ := hD.keep b6 t6 hDF
        have etx6 := t6.tup (s5 _ _ etx4)
        have hsl := succs_few ho x
        have hts : ts.length = (stepsL r x).length := Paired.length pts
        have hsl2 : (stepsL r x).length ≤ 100 := by unfold succs at hsl; rw [List.length_map] at hsl; exact hsl
        refine ⟨.ref L, rfl, .inl ⟨rfl, _, SqL.of eL6⟩, .ref F, rfl, .ref xb, rfl, F, .ref D, rfl, by rw [← hget]; exact dget_c eF6 etx6, D, rfl, ⟨_, SqL.of hD6⟩, fun B nB => ?_⟩
        refine lc_map (walk_list (xs := ts.map V.ref)) (stepsL r x) (by rw [List.length_map, hts]) (by rw [List.length_map]; omega) (fun s y H' => ∃ t, y = .ref t ∧ TI H' t s.2) nB (fun _ _ _ _ t h => by obtain ⟨u, h1, h2⟩ := h; exact ⟨u, h1, t.tup h2⟩) (fun H7 s7 => SqL.of (s7 _ _ hD6)) (fun i st y H7 H8 KY hi s7 hy ky => ?_) (fun H7 ys s7 eB pr => ?_)
        · obtain ⟨rfl, hy⟩ := hy
          obtain ⟨t, ht, rfl⟩ := map_at' hy
          obtain ⟨st', hst', sb, et, esb⟩ := paired_at' pts ht
          rw [hi] at hst'
          cases hst'
          exact ⟨t, _, rfl, SqT.of (s7 _ _ et), rfl, _, _, rfl, _, _, rfl, rfl, rfl, .ref sb, rfl, ky _ _ (Same.refl _) ⟨sb, rfl, s7 _ _ esb⟩⟩
        · obtain ⟨us, rfl, pus⟩ := refs_of (S := fun (t : Addr) (s : Nat × Crowd) => TI H7 t s.2) pr
          have pus2 : Paired (TI H7) us (succs r x) := paired_mapR pus
          have eL7 := s7 _ _ eL6
          have hbl : bs.length ≤ 20000 := by
            have := Paired.length pbs
            rw [List.length_append] at hln
            omega
          have husl : us.length ≤ 100 := by rw [Paired.length pus2]; exact hsl
          refine ⟨L, B, _, _, rfl, rfl, eL7, eB, smallL (by rw [List.length_map, List.length_map]; omega), ?_⟩
          have t8 : Ts H7 (upd H7 L (.lst (bs.map V.ref ++ us.map V.ref))) := Ts.put eL7 rfl
          have b8 : SameB L H7 (upd H7 L (.lst (bs.map V.ref ++ us.map V.ref))) := SameB.put
          refine ⟨ps ++ [(x, .ref D)], Ln' ++ succs r x, ?_, ⟨_, _, _, rfl⟩, same_put (s06.trans s7) nL0, b8 _ _ hLF.symm (s7 _ _ eF6), ⟨bs ++ us, by rw [upd_same, List.map_append], paired_app (paired_imp (fun _ _ h => t8.tup (s7 _ _ (t6.tup (s5 _ _ h)))) pbs4) (paired_imp (fun _ _ h => t8.tup h) pus2)⟩, (gb6.same s7).keep b8 t8 (fun l _ h => h), ?_, ?_⟩
          · rw [List.length_append, List.length_append, List.length_append, List.length_singleton, List.length_singleton]
            omega
          · rw [List.map_append]
            exact inv.add hm
          · rw [List.length_append] at hln
            rw [List.length_append, List.length_append, List.length_singleton]
            omega
end
end KH

namespace KM
/-! ### _law_back: all that can reach the goals -/
structure BInv (r : Rl) (ks goals Sn : List Crowd) : Prop where
  nd : Sn.Nodup
  sub : ∀ x ∈ Sn, x ∈ ks
  gl : ∀ x ∈ goals, x ∈ Sn
  ok : ∀ x ∈ Sn, CanTo (succs r) (fun y => y ∈ goals) x
theorem BInv.start {r : Rl} {ks goals : List Crowd} (hn : goals.Nodup) (hs : ∀ x ∈ goals, x ∈ ks) : BInv r ks goals goals := ⟨hn, hs, fun _ h => h, fun x hx => .self hx⟩
theorem BInv.add {r : Rl} {ks goals Sn : List Crowd} {x : Crowd} (h : BInv r ks goals Sn) (hx : x ∉ Sn) (hk : x ∈ ks) (hy : ∃ y ∈ succs r x, y ∈ Sn) : BInv r ks goals (Sn ++ [x]) := by
  obtain ⟨y, h1, h2⟩ := hy
  refine ⟨nodup_snoc h.nd hx, fun z hz => ?_, fun z hz => List.mem_append_left _ (h.gl z hz), fun z hz => ?_⟩
  · rcases List.mem_append.mp hz with q | q
    · exact h.sub z q
    · rw [List.mem_singleton.mp q]; exact hk
  · rcases List.mem_append.mp hz with q | q
    · exact h.ok z q
    · rw [List.mem_singleton.mp q]; exact .step h1 (h.ok y h2)
/-- all that lead into Sn are in Sn -/
def Fix (r : Rl) (ks Sn : List Crowd) : Prop := ∀ x ∈ ks, ∀ y ∈ succs r x, y ∈ Sn → x ∈ Sn
theorem BInv.done {r : Rl} {ks goals Sn : List Crowd} (h : BInv r ks goals Sn) (hf : Fix r ks Sn) (hk : Closed r ks) (x : Crowd) : x ∈ Sn ↔ x ∈ ks ∧ CanTo (succs r) (fun y => y ∈ goals) x := by
  refine ⟨fun hx => ⟨h.sub x hx, h.ok x hx⟩, ?_⟩
  rintro ⟨hx, y, hr, hy⟩
  exact hr.back (P := fun z => z ∈ Sn) (h.gl y hy) fun z hz w hw hP => hf z (hk.reach hx hz) w hw hP
/-- one sweep: the first i of the crowds -/
structure BIn (r : Rl) (ks goals S0 Sn : List Crowd) (i : Nat) : Prop where
  inv : BInv r ks goals Sn
  pre : ∃ t, Sn = S0 ++ t
  got : ∀ x ∈ ks.take i, ∀ y ∈ succs r x, y ∈ S0 → x ∈ Sn
theorem BIn.start {r : Rl} {ks goals Sn : List Crowd} (h : BInv r ks goals Sn) : BIn r ks goals Sn Sn 0 := ⟨h, ⟨[], by simp⟩, fun x hx => by simp at hx⟩
theorem BIn.keep {r : Rl} {ks goals S0 Sn : List Crowd} {i : Nat} {x : Crowd} (h : BIn r ks goals S0 Sn i) (hi : ks[i]? = some x) (hx : (∃ y ∈ succs r x, y ∈ Sn) → x ∈ Sn) : BIn r ks goals S0 Sn (i + 1) := by
  refine ⟨h.inv, h.pre, fun z hz y hy hS => ?_⟩
  rcases (mem_take_succ hi).mp hz with q | q
  · exact h.got z q y hy hS
  · subst q
    obtain ⟨t, ht⟩ := h.pre
    exact hx ⟨y, hy, by rw [ht]; exact List.mem_append_left _ hS⟩
theorem BIn.add {r : Rl} {ks goals S0 Sn : List Crowd} {i : Nat} {x : Crowd} (h : BIn r ks goals S0 Sn i) (hi : ks[i]? = some x) (hx : x ∉ Sn) (hy : ∃ y ∈ succs r x, y ∈ Sn) : BIn r ks goals S0 (Sn ++ [x]) (i + 1) := by
  obtain ⟨t, ht⟩ := h.pre
  refine ⟨h.inv.add hx (List.mem_of_getElem? hi) hy, ⟨t ++ [x], by rw [ht, List.append_assoc]⟩, fun z hz y hy hS => ?_⟩
  rcases (mem_take_succ hi).mp hz with q | q
  · exact List.mem_append_left _ (h.got z q y hy hS)
  · rw [q]; simp
theorem BIn.fin {r : Rl} {ks goals S0 Sn : List Crowd} (h : BIn r ks goals S0 Sn ks.length) : S0.length ≤ Sn.length ∧ (S0.length = Sn.length → Fix r ks Sn) := by
  obtain ⟨t, ht⟩ := h.pre
  refine ⟨by rw [ht, List.length_append]; omega, fun e => ?_⟩
  rw [ht, List.length_append] at e
  have : t = [] := List.eq_nil_of_length_eq_zero (by omega)
  rw [this, List.append_nil] at ht
  intro x hx y hy hS
  refine h.got x (by rw [List.take_length]; exact hx) y hy (by rw [← ht]; exact hS)
/-- the counts of hands -/
theorem bump_cs {n i : Nat} {S : Int} {c : List Int} (h : Cw n S c) (hi : i < n) : Cw n (S + 1) (bmp c i 1) := bmp_ok h hi (by decide)
end KM
namespace KM
theorem walk_inv {r : Rl} {c g : Crowd} {n : Nat} {ns : List Nat} (h : walkTo r c (n :: ns) = some g) : ∃ y, (n, y) ∈ stepsL r c ∧ walkTo r y ns = some g := by
  by_cases hn : n ∈ canL r c
  · obtain ⟨m, h1, h2⟩ := mem_canL.mp hn
    have hs : (n, behind c m) ∈ stepsL r c := mem_stepsL.mpr ⟨m, h1, h2, rfl⟩
    rw [walk_cons _ hs] at h
    exact ⟨_, hs, h⟩
  · rw [walk_off _ hn] at h
    cases h
theorem steps_nd (r : Rl) (c : Crowd) : ((stepsL r c).map (·.1)).Nodup := by
  have e : (stepsL r c).map (·.1) = (canP r c).map (·.2) := by unfold stepsL; rw [List.map_map]; rfl
  rw [e]
  exact (zipIdx_nodup r.meets).sublist ((List.filter_sublist).map _)
end KM

namespace KH
open PySem PySem.Spec PyProof.Rows L2 KM
section
variable {P : Program} {w : World} {K : PySem.W.Frag} {mg : Str → Option Value} {base : Heap} {ad : Nat → Addr} {fd : Nat → FuncData}
theorem sameB_put {f p : Addr} {H H' : Hp} {o : HO} (s : SameB f H H') (n : H p = none) : SameB f H (upd H' p o) := fun b u hb e => by
  rw [upd_ne (ne_of_none e n)]
  exact s b u hb e
theorem sameB_new {f p : Addr} {H H' : Hp} {o : HO} (s : SameB f H H') (n : H' p = none) : SameB f H (upd H' p o) := s.trans (SameB.of (same_new n))
theorem FeedAt.ne {f p : Addr} {H : Hp} {k : Nat} (h : FeedAt H f k) (n : H p = none) : p ≠ f := fun z => by
  obtain ⟨c, l, t, e, _⟩ := h
  rw [z, e] at n
  cases n
theorem FeedAt.free {f p : Addr} {H H' : Hp} {k : Nat} (h : FeedAt H' f k) (s : SameB f H H') (n : H' p = none) : H p = none := s.free n (Ne.symm (h.ne n))
theorem FeedAt.put {f p : Addr} {H : Hp} {k : Nat} {o : HO} (h : FeedAt H f k) (hp : p ≠ f) : FeedAt (upd H p o) f k := h.keep SameB.put hp.symm
/-! ### _law_counts -/
def spCounts : Sp := fun vs H Q _ => ∃ (f : Addr) (k n : Nat), vs = [.ref f, vn n, .int 4] ∧ FeedAt H f k ∧ k ≤ 90000 ∧ 1 ≤ n ∧ n ≤ 100 ∧ ∀ H' p cs, SameB f H H' → FeedAt H' f (k + 5) → TI H' p cs → Cs n cs → Q (.ref p) H'
theorem ok50 (T : Tx K mg ad fd) : FnOk P w K mg base CX0 2 (ad 50) (fd 50) P50 spCounts := by
  have nd := sc50.nd
  have G42 := ok42 (P := P) (w := w) (base := base) T
  refine T.f__law_counts.ok sc50 (fun vs H Q E h => ?_) (fun cdv A outer s H vs Q E hr h => ?_)
  · obtain ⟨f, k, n, rfl, _⟩ := h
    rfl
  · obtain ⟨f, k, n, rfl, hf, hk, hn1, hn, q⟩ := h
    refine ⟨_, PSs.nox (pss_cons (ps_setLc (i := 3) (own := [("_law_sort", 5)]) (g := (gName 5)) (tt := tYes) (by rfl) nd rfl rfl (sw_true rfl rfl rfl (by decide +kernel)) (pi_range1 (by rfl) T.b_range (pa_cons (pv 1) pa_nil)) (blkOk_by (N := N50) (sc := defScope (topS 50)) (by decide +kernel)) (fun _ _ _ _ _ => pg_name (i := 5) nd rfl (Or.inl rfl)) (fun _ _ _ _ _ => pts_nil) (fun _ _ _ _ _ => pe_int))
  (pss_cons (ps_for PassesOwn.never rfl (pi_range1 (by rfl) T.b_range (pa_cons (pe_op op_add pe_int (pe_call G42 (hr.mono (by decide)) (by rfl) T.g__law_draw T.f__law_draw.kp T.b__law_draw .nil pass0 (pa_cons (pv 0) (pa_cons (pv 2) pa_nil)))) pa_nil)) (pg_name (i := 4) nd rfl (Or.inl rfl))
    (pss_cons (ps_set (i := 5) nd rfl (Or.inl rfl) (pe_call G42 (hr.mono (by decide)) (by rfl) T.g__law_draw T.f__law_draw.kp T.b__law_draw .nil pass0 (pa_cons (pv 0) (pa_cons (pv 1) pa_nil))))
  (pss_one (ps_asg (pe_op op_add (pe_ix (KW.ixL K) (pv 3) (pv 5) (fun _ _ => rfl)) pe_int) (pg_sub (pv 3) (pv 5) set_list)))))
  (pss_one (ps_ret (pe_callTy (KW.tupO K) (by rfl) T.b_tuple (by decide +kernel) (pa_cons (pv 3) pa_nil)))))), ?_⟩
    refine ⟨vn n, rfl, (n : Int), rfl, rng_lo, rng_hi (by omega), fun L nL => lc_pure walk_range (List.range n) (by simp) (by simp; omega) (fun _ => .int 0) nL (fun _ _ => trivial) (fun i m x H1 H2 KY hi s1 hy ky => ?_) (fun H1 s1 eD => ?_)⟩
    · obtain ⟨rfl, rfl⟩ := hy
      exact ⟨rfl, ky _ (Same.refl _)⟩
    · have eL : H1 L = some (.lst ((List.replicate n (0 : Int)).map V.int)) := by
        rw [eD]
        show some (HO.lst ((List.range n).map fun _ => V.int 0)) = _
        rw [List.map_const', List.length_range, List.map_replicate]
      have hLf : L ≠ f := hf.ne nL
      refine ⟨.ref f, rfl, .int 4, rfl, f, k, 4, rfl, hf.same s1, by omega, by decide, by decide, fun H2 d b2 hf2 hd0 hd4 => ?_⟩
      have eL2 := b2 _ _ hLf eL
      refine ⟨1, d, rfl, rfl, 1 + d, rfl, by omega, by omega, ?_⟩
      refine for_it walk_range (fun i σ H3 => ∃ x4 x5 cs, σ = [some (.ref f), some (vn n), some (.int 4), some (.ref L), x4, x5] ∧ SameB f H H3 ∧ FeedAt H3 f (k + 1 + i) ∧ H3 L = some (.lst (cs.map V.int)) ∧ Cw n (i : Int) cs)
        ⟨none, none, _, rfl, (SameB.of s1).trans b2, hf2, eL2, by exact zeros_ok n⟩ (fun i σ H1 _ hp => trivial) (fun i x σ H3 H4 hi hp hy => ?_) (fun σ H3 hp => ?_)
      · obtain ⟨x4, x5, cs, rfl, b3, hf3, eL3, hcw⟩ := hp
        obtain ⟨rfl, rfl⟩ := hy
        have hi4 : i < 4 := by omega
        refine ⟨.ref f, rfl, vn n, rfl, f, k + 1 + i, (n : Int), rfl, hf3, by omega, by omega, by omega, fun H5 sn b5 hf5 h0 hlt => ?_⟩
        obtain ⟨j, rfl⟩ := Int.eq_ofNat_of_zero_le h0
        have hj : j < n := by omega
        have eL5 := b5 _ _ hLf eL3
        have hjl : j < cs.length := by rw [hcw.len]; exact hj
        refine ⟨.ref L, rfl, _, rfl, L, _, _, _, rfl, rfl, SqL.of eL5, list_at hjl, _, 1, rfl, rfl, ?_⟩
        refine ⟨.ref L, rfl, _, rfl, L, _, _, j, rfl, rfl, eL5, by rw [List.length_map]; exact ixN_nat hjl, ?_⟩
        refine ⟨_, _, bmp cs j 1, rfl, sameB_put (b3.trans b5) nL, hf5.put hLf, ?_, ?_⟩
        · rw [upd_same]
          exact congrArg (fun z => some (HO.lst z)) (set_bump (l := cs) (i := j) (k := 1))
        · exact bump_cs hcw hj
      · obtain ⟨x4, x5, cs, rfl, b3, hf3, eL3, hcw⟩ := hp
        have e1 : ((1 + d).toNat : Int) = 1 + d := by omega
        rw [e1] at hcw
        refine ⟨.ref L, rfl, L, _, rfl, SqL.of eL3, fun p np => q _ p cs (sameB_new b3 np) ((hf3.same (same_new np)).mono (by omega)) upd_same ⟨hcw.len, hcw.pos, ?_, ?_⟩⟩
        · rw [hcw.sum]; omega
        · rw [hcw.sum]; omega
end
end KH

namespace KH
open PySem PySem.Spec PyProof.Rows L2 KM
section
variable {P : Program} {w : World} {K : PySem.W.Frag} {mg : Str → Option Value} {base : Heap} {ad : Nat → Addr} {fd : Nat → FuncData}
/-! ### _law_back -/
theorem putK_true {Sn : List Crowd} {x : Crowd} (h : x ∈ Sn) : putK (trueD Sn) x (.bl true) = trueD Sn := by
  unfold putK
  have e : ((trueD Sn).any fun kv => decide (kv.1 = x)) = true := List.any_eq_true.mpr ⟨(x, .bl true), List.mem_map.mpr ⟨x, h, rfl⟩, by simp⟩
  rw [if_pos e]
  unfold trueD
  rw [List.map_map]
  refine List.map_congr_left fun y _ => ?_
  show (if y = x then (y, V.bl true) else (y, V.bl true)) = _
  split <;> rfl
/-- unlocked again, S alone changed -/
theorem unlock_same {H H1 H4 : Hp} {g S : Addr} {u : HO} {od : Obj} (sm : Same H H1) (eg : H g = some u) (eg1 : H1 g = some u) (nS : H S = none) (b4 : SameB S (upd H1 g (.frz od u)) H4) : Same H (upd H4 g u) := fun b o eb => by
  by_cases hb : b = g
  · subst hb
    rw [eg] at eb
    rw [upd_same]
    exact eb
  · rw [upd_ne hb]
    have hbS : b ≠ S := fun z => by rw [z, nS] at eb; cases eb
    exact b4 b o hbS (by rw [upd_ne hb]; exact sm _ _ eb)
def spBack : Sp := fun vs H Q _ => ∃ (g l : Addr) (r : Rl) (ks goals : List Crowd), vs = [.ref g, .ref l] ∧ r.Ok ∧ GraphAt H g r ks ∧ Closed r ks ∧ ks.length ≤ 130 ∧ CrowdsAt H l goals ∧ goals.Nodup ∧ (∀ x ∈ goals, x ∈ ks) ∧
  ∀ H' d Sn, Same H H' → H d = none → H' d = some (.dT (asg (trueD Sn))) → (∀ x, x ∈ Sn ↔ x ∈ ks ∧ CanTo (succs r) (fun y => y ∈ goals) x) → Q (.ref d) H'
theorem ok53 (T : Tx K mg ad fd) : FnOk P w K mg base CX0 1 (ad 53) (fd 53) P53 spBack := by
  have nd := sc53.nd
  refine T.f__law_back.ok sc53 (fun vs H Q E h => ?_) (fun cdv A outer s H vs Q E hr h => ?_)
  · obtain ⟨g, l, r, ks, goals, rfl, _⟩ := h
    rfl
  · obtain ⟨g, l, r, ks, goals, rfl, ho, hG, hclo, few, hL, ng, hsub, q⟩ := h
    refine ⟨_, PSs.nox (pss_cons (ps_set (i := 2) nd rfl (Or.inr rfl) (pe_callTy (KW.dctT K (hu_d hr)) (by rfl) T.b_dict (by decide +kernel) (pa_cons (pe_lc (own := [("_law_goal", 6)]) (g := (gName 6)) (tt := tYes) (by rfl) nd (pi_list (pv 1)) (blkOk_by (N := N53) (sc := defScope (topS 53)) (by decide +kernel)) (fun _ _ _ _ _ => pg_name (i := 6) nd rfl (Or.inl rfl)) (fun _ _ _ _ _ => pts_nil) (fun _ _ _ _ _ => (pe_tup (pa_cons (pv 6) (pa_cons pe_bl pa_nil))))) pa_nil)))
  (pss_cons (ps_set (i := 3) nd rfl (Or.inl rfl) (pe_un un_neg pe_int))
  (pss_cons (ps_while PassesOwn.never (pt_cmpR op_lt (pv 3) (pe_callB call_len_dT (by rfl) T.b_len (by decide +kernel) (pa_cons (pv 2) pa_nil)) (nomark _))
    (pss_cons (ps_set (i := 3) nd rfl (Or.inl rfl) (pe_callB call_len_dT (by rfl) T.b_len (by decide +kernel) (pa_cons (pv 2) pa_nil)))
  (pss_one (ps_lock (ps_for PassesOwn.never rfl (pi_keys (pv 0)) (pg_name (i := 4) nd rfl (Or.inl rfl))
    (pss_cons (ps_setLc (i := 5) (own := [("_law_step", 7)]) (g := (gName 7)) (by rfl) nd rfl rfl (sw_true rfl rfl rfl (by decide +kernel)) (pi_list (pe_dget (hu_of hr) (pv 0) (pv 4) (fun _ _ => rfl))) (blkOk_by (N := N53) (sc := defScope (topS 53)) (by decide +kernel)) (fun _ _ _ _ _ => pg_name (i := 7) nd rfl (Or.inl rfl)) (fun _ _ _ _ _ => pts_one (pt_cmp (pc_din (hu_of hr) (pe_ix (KW.ixT K) (pv 7) pe_int (fun _ _ => rfl)) (pv 2)))) (fun _ _ _ _ _ => (pv 7)))
  (pss_one (ps_if (pt_cmpR (KW.neDp K (hu_eq hr)) (pv 5) (pe_lst pa_nil) (nomark _))
    (pss_one (ps_dput (hu_of hr) (pv 2) (pv 4) pe_bl rfl))
    pss_nil))))))))
  (pss_one (ps_ret (pv 2)))))), ?_⟩
    obtain ⟨bs, hbl, el, pL⟩ := hL.len
    obtain ⟨gp, eg, kG, nG, bG⟩ := id hG
    have hgl : goals.length ≤ 130 := Nat.le_trans (nodup_len goals ks ng hsub) few
    have hlgp : (asg gp).length = ks.length := by rw [len_asg, ← kG, List.length_map]
    refine ⟨.ref l, rfl, l, rfl, ⟨_, SqL.of el⟩, fun D nD => lc_map (walk_list (xs := bs.map V.ref)) goals (by rw [List.length_map, hbl]) (by rw [List.length_map, hbl]; omega) (fun x y H => ∃ q, y = .ref q ∧ ∃ b, H q = some (.tup [.ref b, .bl true]) ∧ TI H b x) nD (fun _ _ _ _ t h => by obtain ⟨u, h1, b, h2, h3⟩ := h; exact ⟨u, h1, b, t.tup h2, t.tup h3⟩) (fun H1 s1 => SqL.of (s1 _ _ el)) (fun i x y H1 H2 KY hi s1 hy ky => ?_) (fun H1 ys s1 eD pr => ?_)⟩
    · obtain ⟨rfl, hy⟩ := hy
      obtain ⟨b, hb, rfl⟩ := map_at' hy
      obtain ⟨x', hx', eb⟩ := paired_at' pL hb
      rw [hi] at hx'
      cases hx'
      exact ⟨rfl, .ref b, rfl, by show 2 ≤ sizeLine; decide, fun t nt => ky _ _ (same_new nt) ⟨t, rfl, b, upd_same, same_new nt _ _ (s1 _ _ eb)⟩⟩
    · obtain ⟨ts, rfl, pts⟩ := refs_of (S := fun t c => ∃ b, H1 t = some (.tup [.ref b, .bl true]) ∧ TI H1 b c) pr
      refine ⟨D, ts, _, rfl, .inl (SqL.of eD), prs_true pts, fun S nS1 => ?_⟩
      rw [merge_nd (by rw [trueD_keys]; exact ng)]
      have nS : H S = none := same_free s1 nS1
      have s2 := same_put (o := .dT (asg (trueD goals))) s1 nS
      have hSg : S ≠ g := fun z => by rw [z, eg] at nS; cases nS
      refine ⟨1, rfl, ?_⟩
      refine ⟨fun m σ H2 => ∃ Sn mn x4 x5 x6 x7, m = (131 - mn).toNat ∧ σ = [some (.ref g), some (.ref l), some (.ref S), some (.int mn), x4, x5, x6, x7] ∧ Same H H2 ∧ H2 S = some (.dT (asg (trueD Sn))) ∧ BInv r ks goals Sn ∧ -1 ≤ mn ∧ mn ≤ Sn.length ∧ (mn = Sn.length → Fix r ks Sn),
        ⟨_, goals, -1, _, _, _, _, rfl, rfl, s2, upd_same, BInv.start ng hsub, by omega, by omega, fun e => by omega⟩, fun m σ H2 hW => ?_⟩
      obtain ⟨Sn, mn, x4, x5, x6, x7, rfl, rfl, sm, eS, bi, hm1, hm2, hfx⟩ := hW
      have hSl : Sn.length ≤ 130 := Nat.le_trans (nodup_len Sn ks bi.nd bi.sub) few
      have hls : ((asg (trueD Sn)).length : Int) = Sn.length := by rw [len_asg, List.length_map]
      refine ⟨_, rfl, .ref S, rfl, S, _, rfl, eS, _, _, rfl, rfl, _, rfl, ?_⟩
      rw [hls]
      by_cases hlt : mn < Sn.length
      · rw [decide_eq_true hlt]
        refine iteT ⟨fun σ' H' => ∃ S2 x4 x5 x6 x7, σ' = [some (.ref g), some (.ref l), some (.ref S), some (.int (Sn.length : Nat)), x4, x5, x6, x7] ∧ Same H H' ∧ H' S = some (.dT (asg (trueD S2))) ∧ BInv r ks goals S2 ∧ Sn.length ≤ S2.length ∧ (Sn.length = S2.length → Fix r ks S2), fun σ' H' hN => ?_, ?_⟩
        · obtain ⟨S2, y4, y5, y6, y7, e1, e2, e3, e4, e5, e6⟩ := hN
          exact ⟨(131 - (Sn.length : Int)).toNat, by omega, S2, Sn.length, y4, y5, y6, y7, rfl, e1, e2, e3, e4, by omega, by omega, fun z => e6 (by omega)⟩
        refine ⟨.ref S, rfl, S, _, rfl, eS, ?_⟩
        rw [hls]
        have eg2 := sm _ _ eg
        refine ⟨g, _, eg2, True.intro, fun od => ⟨.ref g, rfl, g, od, rfl, .inr ⟨asg gp, upd_same, ?_⟩⟩⟩
        have lk : GraphLk (upd H2 g (.frz od (.dT (asg gp)))) g od r gp := graph_lock eg2 (bG.same sm)
        have eS3 : (upd H2 g (.frz od (.dT (asg gp)))) S = some (.dT (asg (trueD Sn))) := by rw [upd_ne hSg]; exact eS
        obtain ⟨Hl, eHl⟩ : ∃ Hl, Hl = upd H2 g (.frz od (.dT (asg gp))) := ⟨_, rfl⟩
        have hfin : ∀ H4, SameB S Hl H4 → Same H (upd H4 g (.dT (asg gp))) := fun H4 b4 => unlock_same sm eg eg2 nS (by rw [← eHl]; exact b4)
        rw [← eHl] at lk eS3 ⊢
        refine for_it (walk_keysT (kvs := asg gp)) (fun i σ H4 => ∃ S2 x4 x5 x6 x7, σ = [some (.ref g), some (.ref l), some (.ref S), some (.int (Sn.length : Nat)), x4, x5, x6, x7] ∧ SameB S Hl H4 ∧ H4 S = some (.dT (asg (trueD S2))) ∧ BIn r ks goals Sn S2 i)
          ⟨Sn, _, _, _, _, rfl, SameB.of (Same.refl Hl), eS3, BIn.start bi⟩ (fun i σ H4 _ hp => ?_) (fun i x σ H4 H5 hi hp hy => ?_) (fun σ H4 hp => ?_)
        · obtain ⟨_, _, _, _, _, _, b4, _⟩ := hp
          exact b4 _ _ hSg.symm lk.1
        · obtain ⟨S2, y4, y5, y6, y7, rfl, b4, e4, bin⟩ := hp
          obtain ⟨rfl, k, v, qa, hk, rfl, hq⟩ := hy
          obtain ⟨c, hc, tc⟩ := key_ti hk hq
          have hkc := map_fst_at kG hc
          have t4 : Ts Hl H5 := b4.te eS3 rfl
          obtain ⟨sl, rfl, ts5, es1, ps1⟩ := graph_step lk.2 hc
          have hslS : sl ≠ S := fun z => by rw [z, eS3] at es1; cases es1
          have es5 := b4 _ _ hslS es1
          have ps5 : Paired (StepAt H5) ts5 (stepsL r c) := paired_imp (fun _ _ h => h.te t4) ps1
          have hsl2 : (stepsL r c).length ≤ 100 := by rw [steps_len]; exact can_few ho c
          have htl := Paired.length ps1
          refine ⟨.ref g, rfl, .ref qa, rfl, g, .ref sl, rfl, ?_, sl, rfl, ⟨_, SqL.of es5⟩, fun D nD => ?_⟩
          · have : valV gp c = some (.ref sl) := valV_mem (by rw [kG]; exact nG) (List.mem_of_getElem? hc)
            rw [← this]
            exact dget_f (b4 _ _ hSg.symm lk.1) tc
          refine lc_same (walk_list (xs := ts5.map V.ref)) (stepsL r c) (by rw [List.length_map, htl]) (by rw [List.length_map]; omega) (fun s => decide (s.2 ∈ S2)) (fun s y H => ∃ t, y = .ref t ∧ StepAt H t s) nD (fun _ _ _ _ t h => by obtain ⟨u, h1, h2⟩ := h; exact ⟨u, h1, h2.te t⟩) (fun H6 s6 => SqL.of (s6 _ _ es5)) (fun j st y H6 H7 KY KN hj s6 hy ky kn => ?_) (fun H6 ys s6 eD pr6 => ?_)
          · obtain ⟨rfl, hy⟩ := hy
            obtain ⟨t, ht, rfl⟩ := map_at' hy
            obtain ⟨st', hst', sb, et, esb⟩ := paired_at' ps5 ht
            rw [hj] at hst'
            cases hst'
            refine ⟨rfl, .ref t, rfl, t, _, 1, _, rfl, rfl, SqT.of (s6 _ _ et), at_nat (n := 1) rfl, .ref S, rfl, S, _, rfl, dget_c (s6 _ _ e4) (s6 _ _ esb), _, rfl, ?_⟩
            rw [valV_some_iff, trueD_keys]
            cases hd : decide (st.2 ∈ S2) with
            | true => exact iteT ⟨_, rfl, ky _ _ hd (Same.refl _) ⟨t, rfl, sb, s6 _ _ et, s6 _ _ esb⟩⟩
            | false => exact iteF (kn _ hd (Same.refl _))
          · obtain ⟨us, rfl, pus⟩ := refs_of (S := fun (t : Addr) (s : Nat × Crowd) => StepAt H6 t s) pr6
            have hst6 : StepsAt H6 D ((stepsL r c).filter fun s => decide (s.2 ∈ S2)) := ⟨us, eD, pus⟩
            refine ⟨.ref D, rfl, Nat.zero_le _, fun Nn nNn => ne_nil lay_dStep (dp_steps (hst6.same (same_new nNn))) upd_same ⟨_, rfl, ?_⟩⟩
            have s7 := s6.trans (same_new (o := .lst []) nNn)
            have e7 := s7 _ _ e4
            have b7 := b4.trans (SameB.of s7)
            by_cases he : ((stepsL r c).filter fun s => decide (s.2 ∈ S2)) = []
            · rw [decide_eq_true he]
              refine iteF ⟨S2, _, _, _, _, rfl, b7, e7, bin.keep hkc ?_⟩
              rintro ⟨y, hy1, hy2⟩
              obtain ⟨n, hn⟩ := mem_succs.mp hy1
              have : (n, y) ∈ (stepsL r c).filter fun s => decide (s.2 ∈ S2) := List.mem_filter.mpr ⟨hn, decide_eq_true hy2⟩
              rw [he] at this
              cases this
            · rw [decide_eq_false he]
              have hy : ∃ y ∈ succs r c, y ∈ S2 := by
                obtain ⟨s0, hs0⟩ := List.exists_mem_of_ne_nil _ he
                obtain ⟨h1, h2⟩ := List.mem_filter.mp hs0
                exact ⟨s0.2, mem_succs.mpr ⟨s0.1, h1⟩, of_decide_eq_true h2⟩
              have hS2 : S2.length ≤ 130 := Nat.le_trans (nodup_len S2 ks bin.inv.nd bin.inv.sub) few
              refine iteT ⟨.ref S, rfl, .ref qa, rfl, S, _, rfl, dput_c e7 (s7 _ _ tc) (small (by rw [List.length_map]; omega)), ?_⟩
              by_cases hc2 : c ∈ S2
              · rw [putK_true hc2]
                exact ⟨S2, _, _, _, _, rfl, b7.trans SameB.put, upd_same, bin.keep hkc fun _ => hc2⟩
              · rw [putK_new' _ (by rw [trueD_keys]; exact hc2)]
                refine ⟨S2 ++ [c], _, _, _, _, rfl, b7.trans SameB.put, ?_, bin.add hkc hc2 hy⟩
                rw [upd_same]
                unfold trueD
                rw [List.map_append]
                rfl
        · obtain ⟨S2, y4, y5, y6, y7, rfl, b4, e4, bin⟩ := hp
          rw [hlgp] at bin
          obtain ⟨f1, f2⟩ := bin.fin
          refine ⟨b4 _ _ hSg.symm lk.1, S2, _, _, _, _, rfl, hfin H4 b4, by rw [upd_ne hSg]; exact e4, bin.inv, f1, f2⟩
      · rw [decide_eq_false hlt]
        exact iteF ⟨.ref S, rfl, q H2 S Sn sm nS eS (bi.done (hfx (by omega)) hclo)⟩
end
end KH

namespace KH
open PySem PySem.Spec PyProof.Rows L2 KM
section
variable {P : Program} {w : World} {K : PySem.W.Frag} {mg : Str → Option Value} {base : Heap} {ad : Nat → Addr} {fd : Nat → FuncData}
/-! ### _law_lost -/
theorem word_at (t : Bool) : atI [V.str (Str.ofString "no"), V.str (Str.ofString "yes")] (if t = true then 1 else 0) = some (.str (Str.ofString (truthW t).tx)) := by
  cases t
  · exact at_nat (n := 0) rfl
  · exact at_nat (n := 1) rfl
def spLost : Sp := fun vs H Q _ => ∃ (a b e : Addr) (r : Rl) (qq : Qu) (cs : List Int), vs = [.ref a, .ref b, .ref e] ∧ IsRule H a r ∧ r.Ok ∧ QAt H b qq ∧ qq.Ok r.starts.length ∧ qq.dep < 2 ∧ TI H e cs ∧ Cs r.starts.length cs ∧
  ∀ H' d lk, Same H H' → H d = none → CrowdsAt H' d lk → (∀ x, x ∈ lk ↔ Rch r (begun r cs) x ∧ Lost r (truthW (holdsQ qq cs)) x) → Q (.ref d) H'
theorem ok54 (T : Tx K mg ad fd) : FnOk P w K mg base CX0 4 (ad 54) (fd 54) P54 spLost := by
  have nd := sc54.nd
  have G45 := ok45 (P := P) (w := w) (base := base) T 2
  have G49 := ok49 (P := P) (w := w) (base := base) T
  have G51 := ok51 (P := P) (w := w) (base := base) T
  have G52 := ok52 (P := P) (w := w) (base := base) T
  have G53 := ok53 (P := P) (w := w) (base := base) T
  refine T.f__law_lost.ok sc54 (fun vs H Q E h => ?_) (fun cdv A outer s H vs Q E hr h => ?_)
  · obtain ⟨a, b, e, r, qq, cs, rfl, _⟩ := h
    rfl
  · obtain ⟨a, b, e, r, qq, cs, rfl, hR, ho, hq, hqo, hqd, he, hcs, q⟩ := h
    refine ⟨_, PSs.nox (pss_cons (ps_set (i := 3) nd rfl (Or.inl rfl) (pe_call G49 (hr.mono (by decide)) (by rfl) T.g__law_all T.f__law_all.kp T.b__law_all .nil pass0 (pa_cons (pv 0) (pa_cons (pe_call G51 (hr.mono (by decide)) (by rfl) T.g__law_begun T.f__law_begun.kp T.b__law_begun .nil pass0 (pa_cons (pv 0) (pa_cons (pv 2) pa_nil))) pa_nil))))
  (pss_cons (ps_set (i := 4) nd rfl (Or.inr rfl) (pe_ix (KW.ixL K) (pe_lst (pa_cons pe_str (pa_cons pe_str pa_nil))) (pe_callTy call_int1 (by rfl) T.b_int (by decide +kernel) (pa_cons (pe_call G45 (hr.mono (by decide)) (by rfl) T.g__law_holds T.f__law_holds.kp T.b__law_holds .nil pass0 (pa_cons (pv 1) (pa_cons (pv 2) pa_nil))) pa_nil)) (fun _ _ => rfl)))
  (pss_cons (ps_lock (ps_setLc (i := 5) (own := [("_law_crowd", 8)]) (g := (gName 8)) (by rfl) nd rfl rfl (sw_true rfl rfl rfl (by decide +kernel)) (pi_keys (pv 3)) (blkOk_by (N := N54) (sc := defScope (topS 54)) (by decide +kernel)) (fun _ _ _ _ _ => pg_name (i := 8) nd rfl (Or.inl rfl)) (fun _ _ _ _ _ => pts_one (pt_cmpR op_ne (pe_call G52 (hr.mono (by decide)) (by rfl) T.g__law_said T.f__law_said.kp T.b__law_said .nil pass0 (pa_cons (pv 0) (pa_cons (pv 8) pa_nil))) (pv 4) (nomark _))) (fun _ _ _ _ _ => (pv 8))))
  (pss_cons (ps_set (i := 6) nd rfl (Or.inr rfl) (pe_call G53 (hr.mono (by decide)) (by rfl) T.g__law_back T.f__law_back.kp T.b__law_back .nil pass0 (pa_cons (pv 3) (pa_cons (pv 5) pa_nil))))
  (pss_cons (ps_set (i := 7) nd rfl (Or.inr rfl) (pe_call G53 (hr.mono (by decide)) (by rfl) T.g__law_back T.f__law_back.kp T.b__law_back .nil pass0 (pa_cons (pv 3) (pa_cons (pe_lock (pe_lc (own := [("_law_crowd", 8)]) (g := (gName 8)) (by rfl) nd (pi_keys (pv 3)) (blkOk_by (N := N54) (sc := defScope (topS 54)) (by decide +kernel)) (fun _ _ _ _ _ => pg_name (i := 8) nd rfl (Or.inl rfl)) (fun _ _ _ _ _ => pts_one (pt_cmp (pc_dnotin (hu_of hr) (pv 8) (pv 6)))) (fun _ _ _ _ _ => (pv 8)))) pa_nil))))
  (pss_one (ps_ret (pe_lock (pe_lc (own := [("_law_crowd", 8)]) (g := (gName 8)) (by rfl) nd (pi_keys (pv 3)) (blkOk_by (N := N54) (sc := defScope (topS 54)) (by decide +kernel)) (fun _ _ _ _ _ => pg_name (i := 8) nd rfl (Or.inl rfl)) (fun _ _ _ _ _ => pts_one (pt_cmp (pc_dnotin (hu_of hr) (pv 8) (pv 7)))) (fun _ _ _ _ _ => (pv 8))))))))))), ?_⟩
    have hbo := begun_ok ho hcs
    obtain ⟨wd, hwd⟩ : ∃ wd, wd = truthW (holdsQ qq cs) := ⟨_, rfl⟩
    refine ⟨.ref a, rfl, .ref a, rfl, .ref e, rfl, a, e, r, cs, rfl, hR, ho, he, hcs.len, fun H1 p s1 np ep => ⟨a, p, r, begun r cs, cs.sum, rfl, hR.te (tsS s1), ho, ep, hbo, hcs.sum4, fun H2 g ks s2 ng hG hkr => ?_⟩⟩
    have hclo : Closed r ks := fun x hx y hy => (hkr y).mpr (.step ((hkr x).mp hx) hy)
    have s02 := s1.trans s2
    refine ⟨by show 2 ≤ sizeLine; decide, fun W nW => ?_⟩
    have s3 := same_new (o := .lst [.str (Str.ofString "no"), .str (Str.ofString "yes")]) nW
    have s03 := s02.trans s3
    refine ⟨.ref b, rfl, .ref e, rfl, b, e, qq, cs, rfl, hq.te (tsS s03), by rw [hcs.len]; exact hqo, (tsS s03).tup he, hqd, fun H4 s4 => .inr ⟨_, rfl, W, _, _, _, rfl, rfl, SqL.of (s4 _ _ upd_same), word_at _, ?_⟩⟩
    rw [← hwd]
    have s04 := s03.trans s4
    have hG4 := hG.same (s3.trans s4)
    obtain ⟨gp, eg, kG, nG, bG⟩ := id hG4
    have few : ks.length ≤ 130 := crowds_few ho.rooms5 hcs.sum4 nG fun x hx => reach_ok ho hbo ((hkr x).mp hx)
    have hlgp : (asg gp).length = ks.length := by rw [len_asg, ← kG, List.length_map]
    have tl : ∀ od : Obj, Ts H4 (upd H4 g (.frz od (.dT (asg gp)))) := fun od => Ts.put eg rfl
    refine ⟨g, _, eg, True.intro, fun od => ?_⟩
    refine ⟨.ref g, rfl, g, od, rfl, .inr ⟨_, upd_same, fun D nD => lc_same walk_keysT ks hlgp.symm (by rw [hlgp]; omega) (fun x => decide (¬ said r x = wd)) (fun x y H => ∃ q, y = .ref q ∧ TI H q x) nD (fun _ _ _ _ t h => by obtain ⟨u, h1, h2⟩ := h; exact ⟨u, h1, t.tup h2⟩) (fun H5 s5 => s5 _ _ upd_same) (fun i x y H5 H6 KY KN hi s5 hy ky kn => ?_) (fun H5 ys s5 eD pr => ?_)⟩⟩
    · obtain ⟨rfl, k, v, qb, hk, rfl, eq⟩ := hy
      obtain ⟨c', hc', etc⟩ := key_ti hk eq
      have := map_fst_at kG hc'
      rw [hi] at this
      have := Option.some.inj this
      subst this
      refine ⟨rfl, .ref a, rfl, .ref qb, rfl, a, qb, r, x, rfl, hR.te (((tsS s04).trans (tl od)).trans (tsS s5)), ho, etc, (reach_ok ho hbo ((hkr x).mp (List.mem_of_getElem? hi))).len, fun H6 s6 => ⟨_, rfl, rfl, _, rfl, ?_⟩⟩
      rw [decS]
      cases hd : decide (said r x = wd) with
      | true => exact iteF (kn _ (by simpa using hd) s6)
      | false => exact iteT ⟨_, rfl, ky _ _ (by simpa using hd) s6 ⟨qb, rfl, s6 _ _ etc⟩⟩
    · refine ⟨s5 _ _ upd_same, ?_⟩
      have su : Same H4 (upd H5 g (.dT (asg gp))) := same_unlock eg s5
      have cD := unl s5 rfl nD eD pr
      obtain ⟨H6, eH6⟩ : ∃ H6, H6 = upd H5 g (.dT (asg gp)) := ⟨_, rfl⟩
      rw [← eH6] at su cD ⊢
      refine ⟨.ref g, rfl, .ref D, rfl, g, D, r, ks, _, rfl, ho, hG4.same su, hclo, few, cD, nG.sublist List.filter_sublist, fun x hx => (List.mem_filter.mp hx).1, fun H7 wr Wn s7 nwr ew hWn => ?_⟩
      have s47 := su.trans s7
      have hw : ∀ x ∈ ks, x ∈ Wn ↔ CanTo (succs r) (wrongS r wd) x := fun x hx => by
        rw [hWn]
        constructor
        · rintro ⟨_, h⟩
          refine (CanTo.iff fun y hy => ?_).mp h
          unfold wrongS
          rw [List.mem_filter, decide_eq_true_eq]
          exact ⟨fun z => z.2, fun z => ⟨hclo.reach hx hy, z⟩⟩
        · intro h
          refine ⟨hx, (CanTo.iff fun y hy => ?_).mpr h⟩
          unfold wrongS
          rw [List.mem_filter, decide_eq_true_eq]
          exact ⟨fun z => z.2, fun z => ⟨hclo.reach hx hy, z⟩⟩
      have eg7 := s47 _ _ eg
      have hwg : wr ≠ g := fun z => by rw [z, su _ _ eg] at nwr; cases nwr
      refine ⟨.ref g, rfl, g, _, eg7, True.intro, fun od7 => ?_⟩
      have ew7 : (upd H7 g (.frz od7 (.dT (asg gp)))) wr = some (.dT (asg (trueD Wn))) := by rw [upd_ne hwg]; exact ew
      refine ⟨.ref g, rfl, g, od7, rfl, .inr ⟨_, upd_same, fun D2 nD2 => lc_same walk_keysT ks hlgp.symm (by rw [hlgp]; omega) (fun x => !decide (x ∈ Wn)) (fun x y H => ∃ q, y = .ref q ∧ TI H q x) nD2 (fun _ _ _ _ t h => by obtain ⟨u, h1, h2⟩ := h; exact ⟨u, h1, t.tup h2⟩) (fun H8 s8 => s8 _ _ upd_same) (fun i x y H8 H9 KY KN hi s8 hy ky kn => ?_) (fun H8 ys8 s8 eD8 pr8 => ?_)⟩⟩
      · obtain ⟨rfl, k, v, qb, hk, rfl, eq⟩ := hy
        obtain ⟨c', hc', etc⟩ := key_ti hk eq
        have := map_fst_at kG hc'
        rw [hi] at this
        have := Option.some.inj this
        subst this
        refine ⟨rfl, .ref qb, rfl, .ref wr, rfl, wr, _, rfl, dget_c (s8 _ _ ew7) etc, _, rfl, ?_⟩
        rw [valV_some_iff, trueD_keys]
        cases hd : decide (x ∈ Wn) with
        | true => exact iteF (kn _ (by rw [hd]; rfl) (fun _ _ e => e))
        | false => exact iteT ⟨_, rfl, ky _ _ (by rw [hd]; rfl) (fun _ _ e => e) ⟨qb, rfl, etc⟩⟩
      · have su8 : Same H7 (upd H8 g (.dT (asg gp))) := same_unlock eg7 s8
        have cD8 := unl s8 rfl nD2 eD8 pr8
        obtain ⟨H9, eH9⟩ : ∃ H9, H9 = upd H8 g (.dT (asg gp)) := ⟨_, rfl⟩
        refine ⟨s8 _ _ upd_same, ?_⟩
        rw [← eH9] at su8 cD8 ⊢
        have s49 := s47.trans su8
        refine ⟨g, D2, r, ks, _, rfl, ho, hG4.same s49, hclo, few, cD8, nG.sublist List.filter_sublist, fun x hx => (List.mem_filter.mp hx).1, fun H10 st Sn s10 nst es hSn => ?_⟩
        have s410 := s49.trans s10
        have hs : ∀ x ∈ ks, x ∈ Sn ↔ CanTo (succs r) (fun y => y ∈ ks ∧ y ∉ Wn) x := fun x hx => by
          rw [hSn]
          have k : CanTo (succs r) (fun y => y ∈ ks.filter fun x => !decide (x ∈ Wn)) x ↔ CanTo (succs r) (fun y => y ∈ ks ∧ y ∉ Wn) x := CanTo.iff fun y hy => by
            rw [List.mem_filter]
            simp
          rw [k]
          exact ⟨fun z => z.2, fun z => ⟨hx, z⟩⟩
        have eg10 := s410 _ _ eg
        have hsg : st ≠ g := fun z => by rw [z, s49 _ _ eg] at nst; cases nst
        refine ⟨g, _, eg10, True.intro, fun od10 => ?_⟩
        have es10 : (upd H10 g (.frz od10 (.dT (asg gp)))) st = some (.dT (asg (trueD Sn))) := by rw [upd_ne hsg]; exact es
        refine ⟨.ref g, rfl, g, od10, rfl, .inr ⟨_, upd_same, fun D3 nD3 => lc_same walk_keysT ks hlgp.symm (by rw [hlgp]; omega) (fun x => !decide (x ∈ Sn)) (fun x y H => ∃ q, y = .ref q ∧ TI H q x) nD3 (fun _ _ _ _ t h => by obtain ⟨u, h1, h2⟩ := h; exact ⟨u, h1, t.tup h2⟩) (fun H11 s11 => s11 _ _ upd_same) (fun i x y H11 H12 KY KN hi s11 hy ky kn => ?_) (fun H11 ys11 s11 eD11 pr11 => ?_)⟩⟩
        · obtain ⟨rfl, k, v, qb, hk, rfl, eq⟩ := hy
          obtain ⟨c', hc', etc⟩ := key_ti hk eq
          have := map_fst_at kG hc'
          rw [hi] at this
          have := Option.some.inj this
          subst this
          refine ⟨rfl, .ref qb, rfl, .ref st, rfl, st, _, rfl, dget_c (s11 _ _ es10) etc, _, rfl, ?_⟩
          rw [valV_some_iff, trueD_keys]
          cases hd : decide (x ∈ Sn) with
          | true => exact iteF (kn _ (by rw [hd]; rfl) (fun _ _ e => e))
          | false => exact iteT ⟨_, rfl, ky _ _ (by rw [hd]; rfl) (fun _ _ e => e) ⟨qb, rfl, etc⟩⟩
        · have su11 : Same H10 (upd H11 g (.dT (asg gp))) := same_unlock eg10 s11
          have cD11 := unl s11 rfl nD3 eD11 pr11
          refine ⟨s11 _ _ upd_same, ?_⟩
          have hD30 : H10 D3 = none := lock_free eg10 nD3
          refine q _ D3 _ ((s04.trans s410).trans su11) (same_free (s04.trans s410) hD30) cD11 fun x => ?_
          rw [List.mem_filter]
          constructor
          · rintro ⟨h1, h2⟩
            refine ⟨(hkr x).mp h1, ?_⟩
            rw [← hwd]
            exact (lost_iff hclo hw hs h1).mp (by simpa using h2)
          · rintro ⟨h1, h2⟩
            have hx := (hkr x).mpr h1
            rw [← hwd] at h2
            exact ⟨hx, by simpa using (lost_iff hclo hw hs hx).mpr h2⟩
end
end KH

namespace KH
open PySem PySem.Spec PyProof.Rows L2 KM
section
variable {P : Program} {w : World} {K : PySem.W.Frag} {mg : Str → Option Value} {base : Heap} {ad : Nat → Addr} {fd : Nat → FuncData}
/-! ### _law_far -/
theorem prs_zero {H : Hp} : ∀ {ts : List Addr} {gs : List Crowd}, Paired (fun t c => ∃ b, H t = some (.tup [.ref b, .int 0]) ∧ TI H b c) ts gs → PrsT H ts (asg (intD (gs.map fun g => (g, 0))))
  | _, _, .nil => .nil
  | _, _, .cons ⟨b, h1, h2⟩ t => .cons ⟨b, h1, tiK h2⟩ (prs_zero t)
theorem ints_of {α : Type} : ∀ {as : List α} {ys : List V}, Paired (fun _ y => ∃ i : Int, y = V.int i) as ys → ∃ l : List Int, ys = l.map V.int
  | _, _, .nil => ⟨[], rfl⟩
  | _, _, .cons ⟨i, e⟩ t => by
    obtain ⟨l, h⟩ := ints_of t
    exact ⟨i :: l, by rw [e, h]; rfl⟩
theorem int_getD {Ps : List (Crowd × Int)} {c : Crowd} (z : Int) : ∃ i : Int, (valV (intD Ps) c).getD (.int z) = .int i := by
  cases e : valV (intD Ps) c with
  | none => exact ⟨z, rfl⟩
  | some v =>
    have := valV_get e
    obtain ⟨p, _, hp⟩ := List.mem_map.mp this
    exact ⟨p.2, by rw [show v = V.int p.2 from ((Prod.mk.inj hp).2).symm]; rfl⟩
def spFar : Sp := fun vs H Q _ => ∃ (g l : Addr) (r : Rl) (ks goals : List Crowd), vs = [.ref g, .ref l] ∧ r.Ok ∧ GraphAt H g r ks ∧ ks.length ≤ 130 ∧ CrowdsAt H l goals ∧ goals.Nodup ∧ (∀ x ∈ goals, x ∈ ks) ∧
  ∀ H' d Ps, Same H H' → H d = none → H' d = some (.dT (asg (intD Ps))) → Q (.ref d) H'
theorem ok55 (T : Tx K mg ad fd) : FnOk P w K mg base CX0 1 (ad 55) (fd 55) P55 spFar := by
  have nd := sc55.nd
  refine T.f__law_far.ok sc55 (fun vs H Q E h => ?_) (fun cdv A outer s H vs Q E hr h => ?_)
  · obtain ⟨g, l, r, ks, goals, rfl, _⟩ := h
    rfl
  · obtain ⟨g, l, r, ks, goals, rfl, ho, hG, few, hL, ng, hsub, q⟩ := h
    refine ⟨_, PSs.nox (pss_cons (ps_set (i := 2) nd rfl (Or.inr rfl) (pe_callTy (KW.dctT K (hu_d hr)) (by rfl) T.b_dict (by decide +kernel) (pa_cons (pe_lc (own := [("_law_goal", 7)]) (g := (gName 7)) (tt := tYes) (by rfl) nd (pi_list (pv 1)) (blkOk_by (N := N55) (sc := defScope (topS 55)) (by decide +kernel)) (fun _ _ _ _ _ => pg_name (i := 7) nd rfl (Or.inl rfl)) (fun _ _ _ _ _ => pts_nil) (fun _ _ _ _ _ => (pe_tup (pa_cons (pv 7) (pa_cons pe_int pa_nil))))) pa_nil)))
  (pss_cons (ps_set (i := 3) nd rfl (Or.inl rfl) pe_int)
  (pss_cons (ps_set (i := 4) nd rfl (Or.inl rfl) (pe_un un_neg pe_int))
  (pss_cons (ps_while PassesOwn.never (pt_cmpR op_lt (pv 4) (pe_callB call_len_dT (by rfl) T.b_len (by decide +kernel) (pa_cons (pv 2) pa_nil)) (nomark _))
    (pss_cons (ps_set (i := 4) nd rfl (Or.inl rfl) (pe_callB call_len_dT (by rfl) T.b_len (by decide +kernel) (pa_cons (pv 2) pa_nil)))
  (pss_cons (ps_set (i := 3) nd rfl (Or.inl rfl) (pe_op op_add (pv 3) pe_int))
  (pss_one (ps_lock (ps_for PassesOwn.never rfl (pi_keys (pv 0)) (pg_name (i := 5) nd rfl (Or.inl rfl))
    (pss_cons (ps_setLc (i := 6) (own := [("_law_step", 8)]) (g := (gName 8)) (tt := tYes) (by rfl) nd rfl rfl (sw_true rfl rfl rfl (by decide +kernel)) (pi_list (pe_dget (hu_of hr) (pv 0) (pv 5) (fun _ _ => rfl))) (blkOk_by (N := N55) (sc := defScope (topS 55)) (by decide +kernel)) (fun _ _ _ _ _ => pg_name (i := 8) nd rfl (Or.inl rfl)) (fun _ _ _ _ _ => pts_nil) (fun _ _ _ _ _ => (pe_dget2 (hu_of hr) (pv 2) (pe_ix (KW.ixT K) (pv 8) pe_int (fun _ _ => rfl)) (pe_un un_neg pe_int) ⟨rfl, rfl, rfl, rfl⟩)))
  (pss_one (ps_if (PW.pt (pw_and (pt_cmp (pc_dnotin (hu_of hr) (pv 5) (pv 2))) (pw_and1 (pt_cmpR (KW.inS K) (pe_op op_sub (pv 3) pe_int) (pv 6) (by with_unfolding_all rfl)))))
    (pss_one (ps_dput (hu_of hr) (pv 2) (pv 5) (pv 3) rfl))
    pss_nil)))))))))
  (pss_one (ps_ret (pv 2))))))), ?_⟩
    obtain ⟨bs, hbl, el, pL⟩ := hL.len
    obtain ⟨gp, eg, kG, nG, bG⟩ := id hG
    have hgl : goals.length ≤ 130 := Nat.le_trans (nodup_len goals ks ng hsub) few
    have hlgp : (asg gp).length = ks.length := by rw [len_asg, ← kG, List.length_map]
    refine ⟨.ref l, rfl, l, rfl, ⟨_, SqL.of el⟩, fun D nD => lc_map (walk_list (xs := bs.map V.ref)) goals (by rw [List.length_map, hbl]) (by rw [List.length_map, hbl]; omega) (fun x y H => ∃ q, y = .ref q ∧ ∃ b, H q = some (.tup [.ref b, .int 0]) ∧ TI H b x) nD (fun _ _ _ _ t h => by obtain ⟨u, h1, b, h2, h3⟩ := h; exact ⟨u, h1, b, t.tup h2, t.tup h3⟩) (fun H1 s1 => SqL.of (s1 _ _ el)) (fun i x y H1 H2 KY hi s1 hy ky => ?_) (fun H1 ys s1 eD pr => ?_)⟩
    · obtain ⟨rfl, hy⟩ := hy
      obtain ⟨b, hb, rfl⟩ := map_at' hy
      obtain ⟨x', hx', eb⟩ := paired_at' pL hb
      rw [hi] at hx'
      cases hx'
      exact ⟨rfl, .ref b, rfl, by show 2 ≤ sizeLine; decide, fun t nt => ky _ _ (same_new nt) ⟨t, rfl, b, upd_same, same_new nt _ _ (s1 _ _ eb)⟩⟩
    · obtain ⟨ts, rfl, pts⟩ := refs_of (S := fun t c => ∃ b, H1 t = some (.tup [.ref b, .int 0]) ∧ TI H1 b c) pr
      have k0 : (goals.map fun g => ((g, 0) : Crowd × Int)).map (·.1) = goals := by rw [List.map_map]; exact List.map_id goals
      refine ⟨D, ts, _, rfl, .inl (SqL.of eD), prs_zero pts, fun S nS1 => ?_⟩
      rw [merge_nd (by rw [intD_keys, k0]; exact ng)]
      have nS : H S = none := same_free s1 nS1
      have s2 := same_put (o := .dT (asg (intD (goals.map fun g => (g, 0))))) s1 nS
      have hSg : S ≠ g := fun z => by rw [z, eg] at nS; cases nS
      refine ⟨1, rfl, ?_⟩
      refine ⟨fun m σ H2 => ∃ Ps mn tn x5 x6 x7 x8, m = (131 - mn).toNat ∧ σ = [some (.ref g), some (.ref l), some (.ref S), some (.int tn), some (.int mn), x5, x6, x7, x8] ∧ Same H H2 ∧ H2 S = some (.dT (asg (intD Ps))) ∧ (Ps.map (·.1)).Nodup ∧ (∀ x ∈ Ps.map (·.1), x ∈ ks) ∧ -1 ≤ mn ∧ mn ≤ Ps.length,
        ⟨_, goals.map fun g => (g, 0), -1, 0, _, _, _, _, rfl, rfl, s2, upd_same, by rw [k0]; exact ng, by rw [k0]; exact hsub, by omega, by omega⟩, fun m σ H2 hW => ?_⟩
      obtain ⟨Ps, mn, tn, x5, x6, x7, x8, rfl, rfl, sm, eS, nP, sP, hm1, hm2⟩ := hW
      have hSl : Ps.length ≤ 130 := by
        have := nodup_len _ ks nP sP
        rw [List.length_map] at this
        omega
      have hls : ((asg (intD Ps)).length : Int) = Ps.length := by rw [len_asg, List.length_map]
      refine ⟨_, rfl, .ref S, rfl, S, _, rfl, eS, _, _, rfl, rfl, _, rfl, ?_⟩
      rw [hls]
      by_cases hlt : mn < Ps.length
      · rw [decide_eq_true hlt]
        refine iteT ⟨fun σ' H' => ∃ P2 tn x5 x6 x7 x8, σ' = [some (.ref g), some (.ref l), some (.ref S), some (.int tn), some (.int (Ps.length : Nat)), x5, x6, x7, x8] ∧ Same H H' ∧ H' S = some (.dT (asg (intD P2))) ∧ (P2.map (·.1)).Nodup ∧ (∀ x ∈ P2.map (·.1), x ∈ ks) ∧ Ps.length ≤ P2.length, fun σ' H' hN => ?_, ?_⟩
        · obtain ⟨P2, tn', y5, y6, y7, y8, e1, e2, e3, e4, e5, e6⟩ := hN
          exact ⟨(131 - (Ps.length : Int)).toNat, by omega, P2, Ps.length, tn', y5, y6, y7, y8, rfl, e1, e2, e3, e4, e5, by omega, by omega⟩
        refine ⟨.ref S, rfl, S, _, rfl, eS, ?_⟩
        rw [hls]
        refine ⟨_, rfl, tn, 1, rfl, rfl, ?_⟩
        have eg2 := sm _ _ eg
        refine ⟨g, _, eg2, True.intro, fun od => ⟨.ref g, rfl, g, od, rfl, .inr ⟨asg gp, upd_same, ?_⟩⟩⟩
        have lk : GraphLk (upd H2 g (.frz od (.dT (asg gp)))) g od r gp := graph_lock eg2 (bG.same sm)
        have eS3 : (upd H2 g (.frz od (.dT (asg gp)))) S = some (.dT (asg (intD Ps))) := by rw [upd_ne hSg]; exact eS
        obtain ⟨Hl, eHl⟩ : ∃ Hl, Hl = upd H2 g (.frz od (.dT (asg gp))) := ⟨_, rfl⟩
        have hfin : ∀ H4, SameB S Hl H4 → Same H (upd H4 g (.dT (asg gp))) := fun H4 b4 => unlock_same sm eg eg2 nS (by rw [← eHl]; exact b4)
        rw [← eHl] at lk eS3 ⊢
        refine for_it (walk_keysT (kvs := asg gp)) (fun i σ H4 => ∃ P2 x5 x6 x7 x8, σ = [some (.ref g), some (.ref l), some (.ref S), some (.int (tn + 1)), some (.int (Ps.length : Nat)), x5, x6, x7, x8] ∧ SameB S Hl H4 ∧ H4 S = some (.dT (asg (intD P2))) ∧ (P2.map (·.1)).Nodup ∧ (∀ x ∈ P2.map (·.1), x ∈ ks) ∧ Ps.length ≤ P2.length)
          ⟨Ps, _, _, _, _, rfl, SameB.of (Same.refl Hl), eS3, nP, sP, Nat.le_refl _⟩ (fun i σ H4 _ hp => ?_) (fun i x σ H4 H5 hi hp hy => ?_) (fun σ H4 hp => ?_)
        · obtain ⟨_, _, _, _, _, _, b4, _⟩ := hp
          exact b4 _ _ hSg.symm lk.1
        · obtain ⟨P2, y5, y6, y7, y8, rfl, b4, e4, n4, sb4, l4⟩ := hp
          obtain ⟨rfl, k, v, qa, hk, rfl, hq⟩ := hy
          obtain ⟨c, hc, tc⟩ := key_ti hk hq
          have hkc := map_fst_at kG hc
          have t4 : Ts Hl H5 := b4.te eS3 rfl
          obtain ⟨sl, rfl, ts5, es1, ps1⟩ := graph_step lk.2 hc
          have hslS : sl ≠ S := fun z => by rw [z, eS3] at es1; cases es1
          have es5 := b4 _ _ hslS es1
          have ps5 : Paired (StepAt H5) ts5 (stepsL r c) := paired_imp (fun _ _ h => h.te t4) ps1
          have hsl2 : (stepsL r c).length ≤ 100 := by rw [steps_len]; exact can_few ho c
          have htl := Paired.length ps1
          refine ⟨.ref g, rfl, .ref qa, rfl, g, .ref sl, rfl, ?_, sl, rfl, ⟨_, SqL.of es5⟩, fun D nD => ?_⟩
          · have : valV gp c = some (.ref sl) := valV_mem (by rw [kG]; exact nG) (List.mem_of_getElem? hc)
            rw [← this]
            exact dget_f (b4 _ _ hSg.symm lk.1) tc
          refine lc_map (walk_list (xs := ts5.map V.ref)) (stepsL r c) (by rw [List.length_map, htl]) (by rw [List.length_map]; omega) (fun s y H => ∃ i : Int, y = .int i) nD (fun _ _ _ _ t h => h) (fun H6 s6 => SqL.of (s6 _ _ es5)) (fun j st y H6 H7 KY hj s6 hy ky => ?_) (fun H6 ys s6 eD pr6 => ?_)
          · obtain ⟨rfl, hy⟩ := hy
            obtain ⟨t, ht, rfl⟩ := map_at' hy
            obtain ⟨st', hst', sb, et, esb⟩ := paired_at' ps5 ht
            rw [hj] at hst'
            cases hst'
            obtain ⟨i, hi⟩ := int_getD (Ps := P2) (c := st.2) (-1)
            refine ⟨rfl, .ref S, rfl, S, rfl, ?_, .ref t, rfl, t, _, 1, _, rfl, rfl, SqT.of (s6 _ _ et), at_nat (n := 1) rfl, 1, rfl, _, dget_c (s6 _ _ e4) (s6 _ _ esb), ?_⟩
            · exact .inr ⟨_, .inl (s6 _ _ e4)⟩
            · show KY ((valV (intD P2) st.2).getD (.int (-1))) _
              rw [hi]
              exact ky _ _ (Same.refl _) ⟨i, rfl⟩
          · obtain ⟨is, rfl⟩ := ints_of pr6
            have e6 := s6 _ _ e4
            have b6 := b4.trans (SameB.of s6)
            have hP2 : P2.length ≤ 130 := by
              have := nodup_len _ ks n4 sb4
              rw [List.length_map] at this
              omega
            refine ⟨.ref qa, rfl, .ref S, rfl, S, _, rfl, dget_c e6 (s6 _ _ tc), _, rfl, ?_⟩
            rw [valV_some_iff, intD_keys]
            by_cases hc2 : c ∈ P2.map (·.1)
            · rw [decide_eq_true hc2]
              exact iteF ⟨P2, _, _, _, _, rfl, b6, e6, n4, sb4, l4⟩
            · rw [decide_eq_false hc2]
              refine iteT ⟨_, rfl, tn + 1, 1, rfl, rfl, .ref D, rfl, D, _, rfl, .inl (SqL.of eD), rfl, flat_int _, _, rfl, ?_⟩
              cases hin : (if false = true then !inV (V.int (tn + 1 - 1)) (is.map V.int) else inV (V.int (tn + 1 - 1)) (is.map V.int)) with
              | false => exact iteF ⟨P2, _, _, _, _, rfl, b6, e6, n4, sb4, l4⟩
              | true =>
                refine iteT ⟨_, rfl, .ref S, rfl, .ref qa, rfl, S, _, rfl, dput_c e6 (s6 _ _ tc) (small (by rw [List.length_map]; omega)), ?_⟩
                rw [putK_new' _ (by rw [intD_keys]; exact hc2)]
                refine ⟨P2 ++ [(c, tn + 1)], _, _, _, _, rfl, b6.trans SameB.put, ?_, ?_, fun x hx => ?_, by rw [List.length_append]; omega⟩
                · rw [upd_same]
                  unfold intD
                  rw [List.map_append]
                  rfl
                · rw [List.map_append]
                  exact nodup_snoc n4 hc2
                · rw [List.map_append] at hx
                  rcases List.mem_append.mp hx with q | q
                  · exact sb4 x q
                  · rw [List.mem_singleton.mp q]
                    exact List.mem_of_getElem? hkc
        · obtain ⟨P2, y5, y6, y7, y8, rfl, b4, e4, n4, sb4, l4⟩ := hp
          exact ⟨b4 _ _ hSg.symm lk.1, P2, _, _, _, _, _, rfl, hfin H4 b4, by rw [upd_ne hSg]; exact e4, n4, sb4, l4⟩
      · rw [decide_eq_false hlt]
        exact iteF ⟨.ref S, rfl, q H2 S Ps sm nS eS⟩
end
end KH

namespace KH
open PySem PySem.Spec PyProof.Rows L2 KM
section
variable {P : Program} {w : World} {K : PySem.W.Frag} {mg : Str → Option Value} {base : Heap} {ad : Nat → Addr} {fd : Nat → FuncData}
/-! ### _law_way -/
def PathAt (H : Hp) (t : Addr) (p : Crowd × List Nat) : Prop := ∃ b n, H t = some (.tup [.ref b, .ref n]) ∧ TI H b p.1 ∧ H n = some (.tup (p.2.map vn))
theorem PathAt.te {H H' : Hp} (t : Ts H H') {a : Addr} {p : Crowd × List Nat} (h : PathAt H a p) : PathAt H' a p := by
  obtain ⟨b, n, h1, h2, h3⟩ := h
  exact ⟨b, n, t.tup h1, t.tup h2, t.tup h3⟩
def spWay : Sp := fun vs H Q _ => ∃ (g b l : Addr) (r : Rl) (c : Crowd) (N : Int) (ks goals : List Crowd), vs = [.ref g, .ref b, .ref l] ∧ r.Ok ∧ GraphAt H g r ks ∧ (∀ x, x ∈ ks ↔ Rch r c x) ∧ TI H b c ∧ Cw r.rooms N c ∧ N ≤ 4 ∧ CrowdsAt H l goals ∧ (∃ x ∈ goals, Rch r c x) ∧
  ∀ (H' : Hp) (t nb cb : Addr) (ns : List Nat) (x : Crowd), Same H H' → H t = none → H' t = some (.tup [.ref nb, .ref cb]) → H' nb = some (.tup (ns.map vn)) → TI H' cb x → Rch r c x → ns.length ≤ 130 → Q (.ref t) H'
structure YSt (H0 : Hp) (g b l L S : Addr) (r : Rl) (c : Crowd) (ts : List Addr) (Ls : List (Crowd × List Nat)) (H : Hp) : Prop where
  same : Same H0 H
  eL : H L = some (.lst (ts.map V.ref))
  pL : Paired (PathAt H) ts Ls
  eS : H S = some (.dT (asg (trueD (Ls.map (·.1)))))
  few : ∀ (j : Nat) (p : Crowd × List Nat), Ls[j]? = some p → p.2.length ≤ j
theorem ok56 (T : Tx K mg ad fd) : FnOk P w K mg base CX0 1 (ad 56) (fd 56) P56 spWay := by
  have nd := sc56.nd
  refine T.f__law_way.ok sc56 (fun vs H Q E h => ?_) (fun cdv A outer s H vs Q E hr h => ?_)
  · obtain ⟨g, b, l, r, c, N, ks, goals, rfl, _⟩ := h
    rfl
  · obtain ⟨g, b, l, r, c, N, ks, goals, rfl, ho, hG, hkr, hb, hc, hN, hL, hgo, q⟩ := h
    refine ⟨_, PSs.nox (pss_cons (ps_set (i := 3) nd rfl (Or.inl rfl) (pe_lst (pa_cons (pe_tup (pa_cons (pv 1) (pa_cons (pe_tup pa_nil) pa_nil))) pa_nil)))
  (pss_cons (ps_set (i := 4) nd rfl (Or.inl rfl) (pe_dispT (hu_of hr) (pv 1) pe_bl))
  (pss_cons (ps_set (i := 5) nd rfl (Or.inl rfl) pe_int)
  (pss_cons (ps_while PassesOwn.never (pt_cmpR (KW.notInDp K (hu_in hr)) (pe_ix (KW.ixT K) (pe_ix (KW.ixL K) (pv 3) (pv 5) (fun _ _ => rfl)) pe_int (fun _ _ => rfl)) (pv 2) (by with_unfolding_all rfl))
    (pss_cons (ps_for PassesOwn.never rfl (pi_list (pe_dget (hu_of hr) (pv 0) (pe_ix (KW.ixT K) (pe_ix (KW.ixL K) (pv 3) (pv 5) (fun _ _ => rfl)) pe_int (fun _ _ => rfl)) (fun _ _ => rfl))) (pg_tup rfl (pgs_cons (pg_name (i := 6) nd rfl (Or.inl rfl)) (pgs_cons (pg_name (i := 7) nd rfl (Or.inl rfl)) pgs_nil)))
    (pss_one (ps_if (pt_cmp (pc_dnotin (hu_of hr) (pv 7) (pv 4)))
    (pss_cons (ps_dput (hu_of hr) (pv 4) (pv 7) pe_bl rfl)
  (pss_one (ps_expr (pe_bm PySem.F.plainAttrs_list PySem.F.slot_list_append PySem.F.type_list_append mt_append (pv 3) (pa_cons (pe_tup (pa_cons (pv 7) (pa_cons (pe_op (KW.catA K) (pe_ix (KW.ixT K) (pe_ix (KW.ixL K) (pv 3) (pv 5) (fun _ _ => rfl)) pe_int (fun _ _ => rfl)) (pe_tup (pa_cons (pv 6) pa_nil))) pa_nil))) pa_nil)))))
    pss_nil)))
  (pss_one (ps_set (i := 5) nd rfl (Or.inl rfl) (pe_op op_add (pv 5) pe_int)))))
  (pss_one (ps_ret (pe_rev2 (pe_ix (KW.ixL K) (pv 3) (pv 5) (fun _ _ => rfl))))))))), ?_⟩
    obtain ⟨gp, eg, kG, nG, bG⟩ := id hG
    refine ⟨.ref b, rfl, by show 0 ≤ sizeLine; decide, fun z nz => ⟨by show 2 ≤ sizeLine; decide, fun t0 nt0 => ⟨by show 1 ≤ sizeLine; decide, fun L nL => ?_⟩⟩⟩
    have s1 : Same H (upd H z (.tup [])) := same_new nz
    have s2 := s1.trans (same_new (o := .tup [.ref b, .ref z]) nt0)
    have nL0 := same_free s2 nL
    have ez2 : (upd (upd H z (.tup [])) t0 (.tup [.ref b, .ref z])) z = some (.tup []) := same_new nt0 _ _ upd_same
    have et2 : (upd (upd H z (.tup [])) t0 (.tup [.ref b, .ref z])) t0 = some (.tup [.ref b, .ref z]) := upd_same
    obtain ⟨H2, eH2⟩ : ∃ H2, H2 = upd (upd H z (.tup [])) t0 (.tup [.ref b, .ref z]) := ⟨_, rfl⟩
    rw [← eH2] at s2 ez2 et2 nL ⊢
    have s3 := same_new (o := .lst [.ref t0]) nL
    have s03 := s2.trans s3
    intro S nS
    have nS0 := same_free s03 nS
    have hSL : S ≠ L := fun e => by rw [e, upd_same] at nS; cases nS
    refine ⟨.ref b, rfl, upd_same, ck c, b, rfl, tiK (same_new nS _ _ (s03 _ _ hb)), ?_⟩
    rw [upd_upd]
    have s4 := same_new (o := .dT [(ck c, .bl true)]) nS
    have s04 := s03.trans s4
    have hSg : S ≠ g := fun e => by rw [e, eg] at nS0; cases nS0
    have hLg : L ≠ g := fun e => by rw [e, eg] at nL0; cases nL0
    refine ⟨fun m σ H1 => ∃ (ts : List Addr) (Ls : List (Crowd × List Nat)) (k : Nat) (x6 x7 : Option V), m = 200 - k ∧ σ = [some (.ref g), some (.ref b), some (.ref l), some (.ref L), some (.ref S), some (.int (k : Nat)), x6, x7] ∧ YSt H g b l L S r c ts Ls H1 ∧ GInv r c (List.map (fun z : Crowd × List Nat => z.1) Ls) k ∧ ∀ x ∈ (List.map (fun z : Crowd × List Nat => z.1) Ls).take k, x ∉ goals,
      ⟨200, [t0], [(c, [])], 0, none, none, rfl, rfl, ⟨s04, by rw [upd_ne hSL.symm, upd_same]; rfl, .cons ⟨b, z, s4 _ _ (s3 _ _ et2), s04 _ _ hb, s4 _ _ (s3 _ _ ez2)⟩ .nil, upd_same, fun j p h => ?_⟩, GInv.start r c, fun x hx => by simp at hx⟩, fun m σ H1 hW => ?_⟩
    · cases j with
      | zero => rw [← Option.some.inj h]; exact Nat.le_refl _
      | succ j => cases h
    obtain ⟨ts, Ls, k, x6, x7, rfl, rfl, st, gi, hng⟩ := hW
    have hLl : Ls.length ≤ 130 := by
      have := gi.few ho hc hN
      rw [List.length_map] at this
      exact this
    have hlt : k < Ls.length := by
      rcases Nat.lt_or_ge k Ls.length with h | h
      · exact h
      · exfalso
        have hk : k = (List.map (fun z : Crowd × List Nat => z.1) Ls).length := by have := gi.le; rw [List.length_map] at *; omega
        obtain ⟨x, hx1, hx2⟩ := hgo
        subst hk
        have := (gi.done x).mpr hx2
        rw [List.take_length] at hng
        exact hng x this hx1
    have htl : ts.length = Ls.length := Paired.length st.pL
    obtain ⟨p, hp⟩ : ∃ p, Ls[k]? = some p := ⟨Ls[k], List.getElem?_eq_getElem hlt⟩
    have hpk : (List.map (fun z : Crowd × List Nat => z.1) Ls)[k]? = some p.1 := by rw [List.getElem?_map, hp]; rfl
    obtain ⟨t, ht, pb, pn, et, epb, epn⟩ := paired_at st.pL hp
    have hxr := gi.rc p.1 (List.mem_of_getElem? hpk)
    refine ⟨.ref L, rfl, _, rfl, L, _, _, .ref t, rfl, rfl, SqL.of st.eL, at_nat (map_at ht), t, _, 0, _, rfl, rfl, SqT.of et, at_nat (n := 0) rfl, .ref l, rfl, dInts p.1, _, dp_ti epb, dp_crowds (hL.same st.same), shaped_ints _, shaped_list dInts3 _, ?_⟩
    rw [any_crowd]
    by_cases hm : p.1 ∈ goals
    · rw [decide_eq_true hm]
      refine ⟨_, rfl, iteF ?_⟩
      refine ⟨.ref L, rfl, _, rfl, L, _, _, .ref t, rfl, rfl, SqL.of st.eL, at_nat (map_at ht), t, _, _, rfl, SqT.of et, fun tt ntt => ?_⟩
      have s5 := same_new (o := .tup [.ref pn, .ref pb]) ntt
      exact q _ tt pn pb p.2 p.1 (st.same.trans s5) (same_free st.same ntt) upd_same (s5 _ _ epn) (s5 _ _ epb) hxr (by have := st.few k p hp; omega)
    · rw [decide_eq_false hm]
      refine ⟨_, rfl, iteT ⟨fun σ' H' => ∃ (ts' : List Addr) (Ls' : List (Crowd × List Nat)) (x6 x7 : Option V), σ' = [some (.ref g), some (.ref b), some (.ref l), some (.ref L), some (.ref S), some (.int ((k + 1 : Nat) : Int)), x6, x7] ∧ YSt H g b l L S r c ts' Ls' H' ∧ GInv r c (List.map (fun z : Crowd × List Nat => z.1) Ls') (k + 1) ∧ ∀ x ∈ (List.map (fun z : Crowd × List Nat => z.1) Ls').take (k + 1), x ∉ goals, fun σ' H' hN' => ?_, ?_⟩⟩
      · obtain ⟨ts', Ls', y6, y7, e1, e2, e3, e4⟩ := hN'
        have h1 := e3.few ho hc hN
        have h2 := e3.le
        exact ⟨200 - (k + 1), by omega, ts', Ls', k + 1, y6, y7, rfl, e1, e2, e3, e4⟩
      have bG1 := bG.same st.same
      have eg1 := st.same _ _ eg
      obtain ⟨j, hj⟩ := List.mem_iff_getElem?.mp ((hkr p.1).mpr hxr)
      obtain ⟨gpj, hgpj, hkj⟩ : ∃ q, gp[j]? = some q ∧ q.1 = p.1 := by
        rw [← kG, List.getElem?_map] at hj
        cases e : gp[j]? with
        | none => rw [e] at hj; cases hj
        | some q => rw [e] at hj; exact ⟨q, rfl, Option.some.inj hj⟩
      obtain ⟨gl, egl, us, egl0, pus0⟩ := graph_step bG (c := gpj.1) (v := gpj.2) hgpj
      rw [hkj] at pus0
      have hglL : gl ≠ L := fun z => by rw [z, nL0] at egl0; cases egl0
      have hglS : gl ≠ S := fun z => by rw [z, nS0] at egl0; cases egl0
      have egl2 := st.same _ _ egl0
      have pus : Paired (StepAt H1) us (stepsL r p.1) := paired_imp (fun _ _ h => h.te (tsS st.same)) pus0
      have hvg : valV gp p.1 = some (.ref gl) := by
        rw [← egl, ← hkj]
        exact valV_mem (by rw [kG]; exact nG) (List.mem_of_getElem? hgpj)
      refine ⟨.ref g, rfl, .ref L, rfl, _, rfl, L, _, _, .ref t, rfl, rfl, SqL.of st.eL, at_nat (map_at ht), t, _, 0, _, rfl, rfl, SqT.of et, at_nat (n := 0) rfl, g, .ref gl, rfl, ?_, gl, rfl, ⟨_, SqL.of egl2⟩, ?_⟩
      · rw [← hvg]
        exact dget_c eg1 epb
      refine for_it (walk_list (xs := us.map V.ref)) (fun i σ H2 => ∃ (ts2 : List Addr) (L2 : List (Crowd × List Nat)) (x6 x7 : Option V), σ = [some (.ref g), some (.ref b), some (.ref l), some (.ref L), some (.ref S), some (.int (k : Nat)), x6, x7] ∧ YSt H g b l L S r c ts2 L2 H2 ∧ H2 gl = some (.lst (us.map V.ref)) ∧ Paired (StepAt H2) us (stepsL r p.1) ∧ GIn r c (List.map (fun z : Crowd × List Nat => z.1) Ls) p.1 (List.map (fun z : Crowd × List Nat => z.1) L2) i ∧ ∃ tl, L2 = Ls ++ tl)
        ⟨ts, Ls, x6, x7, rfl, st, egl2, pus, GIn.start gi, [], by simp⟩ (fun i σ H2 _ hp => ?_) (fun i y σ H2 H3 hi hp2 hy => ?_) (fun σ H2 hp2 => ?_)
      · obtain ⟨_, _, _, _, _, _, e, _⟩ := hp
        exact SqL.of e
      · obtain ⟨ts2, L2, y6, y7, rfl, st2, fgl, fpt, gin, tl, etl⟩ := hp2
        obtain ⟨rfl, hy⟩ := hy
        obtain ⟨u, hu, rfl⟩ := map_at' hy
        obtain ⟨s, hs, sb, eu, esb⟩ := paired_at' fpt hu
        refine ⟨u, _, rfl, SqT.of eu, rfl, _, _, rfl, _, _, rfl, rfl, ?_⟩
        refine ⟨.ref sb, rfl, .ref S, rfl, S, _, rfl, dget_c st2.eS esb, _, rfl, ?_⟩
        rw [valV_some_iff, trueD_keys]
        by_cases hm2 : s.2 ∈ L2.map (·.1)
        · rw [decide_eq_true hm2]
          exact iteF ⟨ts2, L2, _, _, rfl, st2, fgl, fpt, gin.skip hs hm2, tl, etl⟩
        · rw [decide_eq_false hm2]
          have h2len : L2.length ≤ 130 := by
            have := crowds_few ho.rooms5 hN gin.nd fun x hx => reach_ok ho hc (gin.rc x hx)
            rw [List.length_map] at this
            exact this
          have ht2l : ts2.length = L2.length := Paired.length st2.pL
          refine iteT ⟨.ref S, rfl, .ref sb, rfl, S, _, rfl, dput_c st2.eS esb (small (by rw [List.length_map, List.length_map]; omega)), ?_⟩
          rw [putK_new' _ (by rw [trueD_keys]; exact hm2)]
          obtain ⟨H4, eH4⟩ : ∃ H4, H4 = upd H3 S (.dT (asg (trueD (List.map (fun z : Crowd × List Nat => z.1) L2) ++ [(s.2, .bl true)]))) := ⟨_, rfl⟩
          have t4 : Ts H3 H4 := by rw [eH4]; exact Ts.put st2.eS rfl
          have b4 : SameB S H3 H4 := by rw [eH4]; exact SameB.put
          have e4 : H4 S = some (.dT (asg (trueD ((L2 ++ [(s.2, p.2 ++ [s.1])]).map (·.1))))) := by
            rw [eH4, upd_same, List.map_append]
            unfold trueD
            rw [List.map_append]
            rfl
          have sm4 : Same H H4 := by rw [eH4]; exact same_put st2.same nS0
          rw [← eH4]
          have eL4 := b4 _ _ hSL.symm st2.eL
          have hp2' : L2[k]? = some p := by rw [etl, List.getElem?_append_left hlt]; exact hp
          obtain ⟨t', ht', pb', pn', et', epb', epn'⟩ := paired_at st2.pL hp2'
          have pL4 : Paired (PathAt H4) ts2 L2 := paired_imp (fun _ _ h => h.te t4) st2.pL
          have hpl : p.2.length ≤ k := st.few k p hp
          refine ⟨.ref L, rfl, .inl ⟨rfl, _, SqL.of eL4⟩, .ref sb, rfl, .ref L, rfl, _, rfl, L, _, _, .ref t', rfl, rfl, SqL.of eL4, at_nat (map_at ht'), t', _, 1, _, rfl, rfl, SqT.of (t4.tup et'), at_nat (n := 1) rfl, .int s.1, rfl, by show 1 ≤ sizeLine; decide, fun o no => ?_⟩
          have s5 := same_new (o := .tup [.int s.1]) no
          obtain ⟨H5, eH5⟩ : ∃ H5, H5 = upd H4 o (.tup [.int s.1]) := ⟨_, rfl⟩
          have eo5 : H5 o = some (.tup [.int s.1]) := by rw [eH5]; exact upd_same
          rw [← eH5] at s5 ⊢
          -- the end, wherever the longer row stands
          have fin : ∀ (H6 : Hp) (nn : Addr), Same H5 H6 → H6 nn = some (.tup ((p.2 ++ [s.1]).map vn)) → [V.ref sb, V.ref nn].length ≤ sizeLine ∧ ∀ tp, H6 tp = none → ∃ (ts3 : List Addr) (L3 : List (Crowd × List Nat)) (x6 x7 : Option V), ([some (V.ref g), some (V.ref b), some (V.ref l), some (V.ref L), some (V.ref S), some (V.int (k : Nat)), some (V.int s.1), some (V.ref sb)] : List (Option V)) = [some (.ref g), some (.ref b), some (.ref l), some (.ref L), some (.ref S), some (.int (k : Nat)), x6, x7] ∧
              YSt H g b l L S r c ts3 L3 (upd (upd H6 tp (.tup [.ref sb, .ref nn])) L (.lst (ts2.map V.ref ++ [V.ref tp]))) ∧ (upd (upd H6 tp (.tup [.ref sb, .ref nn])) L (.lst (ts2.map V.ref ++ [V.ref tp]))) gl = some (.lst (us.map V.ref)) ∧ Paired (StepAt (upd (upd H6 tp (.tup [.ref sb, .ref nn])) L (.lst (ts2.map V.ref ++ [V.ref tp])))) us (stepsL r p.1) ∧ GIn r c (List.map (fun z : Crowd × List Nat => z.1) Ls) p.1 (List.map (fun z : Crowd × List Nat => z.1) L3) (i + 1) ∧ ∃ tl, L3 = Ls ++ tl := fun H6 nn s6 enn => by
            refine ⟨by show 2 ≤ sizeLine; decide, fun tp ntp => ?_⟩
            have s7 := same_new (o := .tup [.ref sb, .ref nn]) ntp
            have s47 := (s5.trans s6).trans s7
            have eL7 := s47 _ _ eL4
            have t8 : Ts (upd H6 tp (.tup [.ref sb, .ref nn])) (upd (upd H6 tp (.tup [.ref sb, .ref nn])) L (.lst (ts2.map V.ref ++ [V.ref tp]))) := Ts.put eL7 rfl
            have t48 := (tsS s47).trans t8
            refine ⟨ts2 ++ [tp], L2 ++ [(s.2, p.2 ++ [s.1])], _, _, rfl, ⟨same_put (sm4.trans s47) nL0, by rw [upd_same, List.map_append]; rfl, paired_snoc (paired_imp (fun _ _ h => h.te t48) pL4) ⟨sb, nn, t8.tup upd_same, t48.tup (t4.tup esb), t8.tup (s7 _ _ enn)⟩, by rw [upd_ne hSL]; exact s47 _ _ e4, fun j' p' hj' => ?_⟩, ?_, paired_imp (fun _ _ h => h.te (t4.trans t48)) fpt, ?_, tl ++ [(s.2, p.2 ++ [s.1])], by rw [etl, List.append_assoc]⟩
            · by_cases hjl : j' < L2.length
              · rw [List.getElem?_append_left hjl] at hj'
                exact st2.few j' p' hj'
              · have hj2 : j' = L2.length := by
                  have := (List.getElem?_eq_some_iff.mp hj').1
                  rw [List.length_append] at this
                  simp at this
                  omega
                subst hj2
                rw [List.getElem?_append_right (Nat.le_refl _), Nat.sub_self] at hj'
                rw [← Option.some.inj hj']
                show (p.2 ++ [s.1]).length ≤ _
                rw [List.length_append, List.length_singleton]
                have : k < L2.length := (List.getElem?_eq_some_iff.mp hp2').1
                omega
            · rw [upd_ne hglL]
              exact s47 _ _ (b4 _ _ hglS fgl)
            · rw [List.map_append]
              exact gin.add hxr hs hm2
          refine ⟨pn', o, p.2.map vn, [.int s.1], rfl, rfl, SqT.of (s5 _ _ (t4.tup epn')), SqT.of eo5, smallL (by rw [List.length_map]; show p.2.length + 1 ≤ 100000; omega), fun z => ?_, fun _ z => (nomatch z), fun hz _ pp npp => ?_⟩
          · have hp0 : p.2 = [] := List.map_eq_nil_iff.mp z
            have f := fin H5 o (Same.refl _) (by rw [hp0]; exact eo5)
            exact ⟨f.1, fun tp ntp => ⟨L, _, _, rfl, rfl, same_new ntp _ _ (s5 _ _ eL4), small (by rw [List.length_map]; omega), f.2 tp ntp⟩⟩
          · have f := fin (upd H5 pp (.tup (p.2.map vn ++ [.int s.1]))) pp (same_new npp) (by rw [upd_same, List.map_append]; rfl)
            exact ⟨f.1, fun tp ntp => ⟨L, _, _, rfl, rfl, same_new ntp _ _ (same_new npp _ _ (s5 _ _ eL4)), small (by rw [List.length_map]; omega), f.2 tp ntp⟩⟩
      · obtain ⟨ts2, L2, y6, y7, rfl, st2, fgl, fpt, gin, tl, etl⟩ := hp2
        have hl : (us.map V.ref).length = (stepsL r p.1).length := by rw [List.length_map]; exact Paired.length pus
        rw [hl] at gin
        have gf := GIn.fin gi hpk gin
        refine ⟨_, rfl, (k : Int), 1, rfl, rfl, ts2, L2, y6, y7, rfl, st2, gf, fun x hx => ?_⟩
        have hpk2 : (List.map (fun z : Crowd × List Nat => z.1) L2)[k]? = some p.1 := by rw [etl, List.map_append, List.getElem?_append_left (by rw [List.length_map]; exact hlt)]; exact hpk
        rcases (mem_take_succ hpk2).mp hx with h | h
        · refine hng x ?_
          rw [etl, List.map_append, List.take_append_of_le_length (by rw [List.length_map]; omega)] at h
          exact h
        · rw [h]; exact hm
end
end KH

namespace KH
open PySem PySem.Spec PyProof.Rows L2 KM
section
variable {P : Program} {w : World} {K : PySem.W.Frag} {mg : Str → Option Value} {base : Heap} {ad : Nat → Addr} {fd : Nat → FuncData}
theorem ranks_of2 {H : Hp} {β : Type} {f : β → Crowd} : ∀ {bs : List β} {ys : List V}, Paired (fun b y => ∃ t k, y = V.ref t ∧ RankAt H t (f b, k)) bs ys →
    ∃ (ts : List Addr) (rk : List (Crowd × Int)), ys = ts.map V.ref ∧ Paired (RankAt H) ts rk ∧ keysOf rk = bs.map f
  | _, _, .nil => ⟨[], [], rfl, .nil, rfl⟩
  | _, _, .cons (a := b) ⟨t, k, e, h1⟩ tl => by
    obtain ⟨ts, rk, e1, e2, e3⟩ := ranks_of2 tl
    exact ⟨t :: ts, (f b, k) :: rk, by rw [e, e1]; rfl, .cons h1 e2, by show f b :: keysOf rk = _; rw [e3]; rfl⟩
theorem ite_cont {b : Bool} {t1 t2 : VK → Prop} {Q : VK} (C : V → Hp → Prop) (m1 : b = true → ∀ Q : VK, (∀ v H, C v H → Q v H) → t1 Q) (m2 : b = false → ∀ Q : VK, (∀ v H, C v H → Q v H) → t2 Q) (h : ∀ v H, C v H → Q v H) : if b = true then t1 Q else t2 Q := by
  cases b with
  | true => exact iteT (m1 rfl Q h)
  | false => exact iteF (m2 rfl Q h)
/-! ### _law_paper -/
def spPaper : Sp := fun vs H Q _ => ∃ (a b e : Addr) (r : Rl) (qq : Qu) (cs : List Int), vs = [.ref a, .ref b, .ref e] ∧ IsRule H a r ∧ r.Ok ∧ QAt H b qq ∧ qq.Ok r.starts.length ∧ qq.dep < 2 ∧ TI H e cs ∧ Cs r.starts.length cs ∧
  ∀ H' t p, Same H H' → PapAt H' t p → p.Ok r → (keysOf p.rk).Nodup → p.rk ≠ [] → p.rk.length ≤ 130 → Q (.ref t) H'
theorem ok57 (T : Tx K mg ad fd) : FnOk P w K mg base CX0 5 (ad 57) (fd 57) P57 spPaper := by
  have nd := sc57.nd
  have G45 := ok45 (P := P) (w := w) (base := base) T 2
  have G49 := ok49 (P := P) (w := w) (base := base) T
  have G51 := ok51 (P := P) (w := w) (base := base) T
  have G52 := ok52 (P := P) (w := w) (base := base) T
  have G54 := ok54 (P := P) (w := w) (base := base) T
  have G55 := ok55 (P := P) (w := w) (base := base) T
  have G56 := ok56 (P := P) (w := w) (base := base) T
  refine T.f__law_paper.ok sc57 (fun vs H Q E h => ?_) (fun cdv A outer s H vs Q E hr h => ?_)
  · obtain ⟨a, b, e, r, qq, cs, rfl, _⟩ := h
    rfl
  · obtain ⟨a, b, e, r, qq, cs, rfl, hR, ho, hq, hqo, hqd, he, hcs, q⟩ := h
    refine ⟨_, PSs.nox (pss_cons (ps_set (i := 3) nd rfl (Or.inl rfl) (pe_call G51 (hr.mono (by decide)) (by rfl) T.g__law_begun T.f__law_begun.kp T.b__law_begun .nil pass0 (pa_cons (pv 0) (pa_cons (pv 2) pa_nil))))
  (pss_cons (ps_set (i := 4) nd rfl (Or.inl rfl) (pe_call G49 (hr.mono (by decide)) (by rfl) T.g__law_all T.f__law_all.kp T.b__law_all .nil pass0 (pa_cons (pv 0) (pa_cons (pv 3) pa_nil))))
  (pss_cons (ps_set (i := 5) nd rfl (Or.inl rfl) (pe_call G54 (hr.mono (by decide)) (by rfl) T.g__law_lost T.f__law_lost.kp T.b__law_lost .nil pass0 (pa_cons (pv 0) (pa_cons (pv 1) (pa_cons (pv 2) pa_nil)))))
  (pss_cons (ps_set (i := 6) nd rfl (Or.inr rfl) (pe_ix (KW.ixL K) (pe_lst (pa_cons pe_str (pa_cons pe_str pa_nil))) (pe_callTy call_int1 (by rfl) T.b_int (by decide +kernel) (pa_cons (pe_call G45 (hr.mono (by decide)) (by rfl) T.g__law_holds T.f__law_holds.kp T.b__law_holds .nil pass0 (pa_cons (pv 1) (pa_cons (pv 2) pa_nil))) pa_nil)) (fun _ _ => rfl)))
  (pss_cons (ps_asg (pe_call G56 (hr.mono (by decide)) (by rfl) T.g__law_way T.f__law_way.kp T.b__law_way .nil pass0 (pa_cons (pv 4) (pa_cons (pv 3) (pa_cons (pe_ifExp (pt_cmpR (KW.neDp K (hu_eq hr)) (pv 5) (pe_lst pa_nil) (nomark _)) (pv 5) (pe_lst (pa_cons (pv 3) pa_nil))) pa_nil)))) (pg_tup rfl (pgs_cons (pg_name (i := 7) nd rfl (Or.inl rfl)) (pgs_cons (pg_name (i := 8) nd rfl (Or.inl rfl)) pgs_nil))))
  (pss_cons (ps_set (i := 9) nd rfl (Or.inl rfl) (pe_call G49 (hr.mono (by decide)) (by rfl) T.g__law_all T.f__law_all.kp T.b__law_all .nil pass0 (pa_cons (pv 0) (pa_cons (pv 8) pa_nil))))
  (pss_cons (ps_set (i := 10) nd rfl (Or.inr rfl) (pe_call G55 (hr.mono (by decide)) (by rfl) T.g__law_far T.f__law_far.kp T.b__law_far .nil pass0 (pa_cons (pv 9) (pa_cons (pe_lock (pe_lc (own := [("_law_one", 11)]) (g := (gName 11)) (by rfl) nd (pi_keys (pv 9)) (blkOk_by (N := N57) (sc := defScope (topS 57)) (by decide +kernel)) (fun _ _ _ _ _ => pg_name (i := 11) nd rfl (Or.inl rfl)) (fun _ _ _ _ _ => pts_one (pt_cmpR op_ne (pe_call G52 (hr.mono (by decide)) (by rfl) T.g__law_said T.f__law_said.kp T.b__law_said .nil pass0 (pa_cons (pv 0) (pa_cons (pv 11) pa_nil))) (pv 6) (nomark _))) (fun _ _ _ _ _ => (pv 11)))) pa_nil))))
  (pss_one (ps_ret (pe_tup (pa_cons (pv 2) (pa_cons (pv 7) (pa_cons (pe_callTy (KW.tupP K) (by rfl) T.b_tuple (by decide +kernel) (pa_cons (pe_lc (own := [("_law_one", 11)]) (g := (gName 11)) (tt := tYes) (by rfl) nd (pi_list (pe_callB (call_sortedT rfl (hu_s hr)) (by rfl) T.b_sorted (by decide +kernel) (pa_cons (pv 9) pa_nil))) (blkOk_by (N := N57) (sc := defScope (topS 57)) (by decide +kernel)) (fun _ _ _ _ _ => pg_name (i := 11) nd rfl (Or.inl rfl)) (fun _ _ _ _ _ => pts_nil) (fun _ _ _ _ _ => (pe_tup (pa_cons (pv 11) (pa_cons (pe_dget2 (hu_of hr) (pv 10) (pv 11) pe_int ⟨rfl, rfl, rfl, rfl⟩) pa_nil))))) pa_nil)) pa_nil))))))))))))), ?_⟩
    have hbo := begun_ok ho hcs
    obtain ⟨wd, hwd⟩ : ∃ wd, wd = truthW (holdsQ qq cs) := ⟨_, rfl⟩
    refine ⟨.ref a, rfl, .ref e, rfl, a, e, r, cs, rfl, hR, ho, he, hcs.len, fun H1 p s1 np ep => ?_⟩
    refine ⟨.ref a, rfl, .ref p, rfl, a, p, r, begun r cs, cs.sum, rfl, hR.te (tsS s1), ho, ep, hbo, hcs.sum4, fun H2 g ks s2 ng hG hkr => ?_⟩
    have s02 := s1.trans s2
    refine ⟨.ref a, rfl, .ref b, rfl, .ref e, rfl, a, b, e, r, qq, cs, rfl, hR.te (tsS s02), ho, hq.te (tsS s02), hqo, hqd, (tsS s02).tup he, hcs, fun H3 l lk s3 nl hL hlk => ?_⟩
    have s03 := s02.trans s3
    refine ⟨by show 2 ≤ sizeLine; decide, fun W nW => ?_⟩
    have s4 := same_new (o := .lst [.str (Str.ofString "no"), .str (Str.ofString "yes")]) nW
    have s04 := s03.trans s4
    refine ⟨.ref b, rfl, .ref e, rfl, b, e, qq, cs, rfl, hq.te (tsS s04), by rw [hcs.len]; exact hqo, (tsS s04).tup he, hqd, fun H5 s5 => .inr ⟨_, rfl, W, _, _, _, rfl, rfl, SqL.of (s5 _ _ upd_same), word_at _, ?_⟩⟩
    rw [← hwd]
    have s05 := s04.trans s5
    have s35 := s4.trans s5
    have s15 := (s2.trans s3).trans s35
    have hL5 := hL.same s35
    refine ⟨.ref g, rfl, .ref p, rfl, .ref l, rfl, Nat.zero_le _, fun Nn nNn => ne_nil dInts3 (dp_crowds (hL5.same (same_new nNn))) upd_same ⟨_, rfl, ?_⟩⟩
    have s6 := same_new (o := .lst []) nNn
    refine ite_cont (fun v H7 => ∃ l' goals, v = .ref l' ∧ Same H5 H7 ∧ CrowdsAt H7 l' goals ∧ ∃ x ∈ goals, Rch r (begun r cs) x) (fun hb Q k => ?_) (fun hb Q k => ?_) (fun v H7 hc => ?_)
    · refine ⟨_, rfl, k _ _ ⟨l, lk, rfl, s6, hL5.same s6, ?_⟩⟩
      have hne : lk ≠ [] := by simpa using hb
      obtain ⟨x, hx⟩ := List.exists_mem_of_ne_nil _ hne
      exact ⟨x, hx, ((hlk x).mp hx).1⟩
    · refine ⟨.ref p, rfl, by show 1 ≤ sizeLine; decide, fun G nG => k _ _ ⟨G, [begun r cs], rfl, s6.trans (same_new nG), ⟨[p], upd_same, .cons ((s15.trans (s6.trans (same_new nG))) _ _ ep) .nil⟩, begun r cs, by simp, .refl _⟩⟩
    · obtain ⟨l', goals, rfl, s57, hL7, hgo⟩ := hc
      have s17 := s15.trans s57
      have s07 := s05.trans s57
      refine ⟨g, p, l', r, begun r cs, cs.sum, ks, goals, rfl, ho, hG.same (s3.trans (s35.trans s57)), hkr, s17 _ _ ep, hbo, hcs.sum4, hL7, hgo, fun H8 t nb cb ns x s8 nt et enb ecb hxr hnl => ?_⟩
      refine ⟨t, _, rfl, SqT.of et, rfl, _, _, rfl, _, _, rfl, rfl, ?_⟩
      have s08 := s07.trans s8
      have hxc := reach_ok ho hbo hxr
      refine ⟨.ref a, rfl, .ref cb, rfl, a, cb, r, x, cs.sum, rfl, hR.te (tsS s08), ho, ecb, hxc, hcs.sum4, fun H9 g2 ks2 s9 ng2 hG2 hkr2 => ?_⟩
      have s09 := s08.trans s9
      obtain ⟨gp, eg, kG, nG, bG⟩ := id hG2
      have few : ks2.length ≤ 130 := crowds_few ho.rooms5 hcs.sum4 nG fun y hy => reach_ok ho hxc ((hkr2 y).mp hy)
      have hlgp : (asg gp).length = ks2.length := by rw [len_asg, ← kG, List.length_map]
      have tl : ∀ od : Obj, Ts H9 (upd H9 g2 (.frz od (.dT (asg gp)))) := fun od => Ts.put eg rfl
      refine ⟨.ref g2, rfl, g2, _, eg, True.intro, fun od => ?_⟩
      refine ⟨.ref g2, rfl, g2, od, rfl, .inr ⟨_, upd_same, fun D nD => lc_same walk_keysT ks2 hlgp.symm (by rw [hlgp]; omega) (fun x => decide (¬ said r x = wd)) (fun x y H => ∃ q, y = .ref q ∧ TI H q x) nD (fun _ _ _ _ t h => by obtain ⟨u, h1, h2⟩ := h; exact ⟨u, h1, t.tup h2⟩) (fun H10 s10 => s10 _ _ upd_same) (fun i y v H10 H11 KY KN hi s10 hy ky kn => ?_) (fun H10 ys s10 eD pr => ?_)⟩⟩
      · obtain ⟨rfl, k, v, qb, hk, rfl, eq⟩ := hy
        obtain ⟨c', hc', etc⟩ := key_ti hk eq
        have := map_fst_at kG hc'
        rw [hi] at this
        have := Option.some.inj this
        subst this
        refine ⟨rfl, .ref a, rfl, .ref qb, rfl, a, qb, r, y, rfl, hR.te (((tsS s09).trans (tl od)).trans (tsS s10)), ho, etc, (reach_ok ho hxc ((hkr2 y).mp (List.mem_of_getElem? hi))).len, fun H12 s12 => ⟨_, rfl, rfl, _, rfl, ?_⟩⟩
        rw [decS]
        cases hd : decide (said r y = wd) with
        | true => exact iteF (kn _ (by simpa using hd) s12)
        | false => exact iteT ⟨_, rfl, ky _ _ (by simpa using hd) s12 ⟨qb, rfl, s12 _ _ etc⟩⟩
      · refine ⟨s10 _ _ upd_same, ?_⟩
        have su : Same H9 (upd H10 g2 (.dT (asg gp))) := same_unlock eg s10
        have cD := unl s10 rfl nD eD pr
        obtain ⟨H11, eH11⟩ : ∃ H11, H11 = upd H10 g2 (.dT (asg gp)) := ⟨_, rfl⟩
        rw [← eH11] at su cD ⊢
        refine ⟨g2, D, r, ks2, _, rfl, ho, hG2.same su, few, cD, nG.sublist List.filter_sublist, fun y hy => (List.mem_filter.mp hy).1, fun H12 fr Pf s12 nfr efr => ?_⟩
        have s912 := su.trans s12
        have eg12 := s912 _ _ eg
        have hne : ∀ p ∈ gp, p.1 ≠ [] := fun p hp z => by
          have : p.1 ∈ ks2 := by rw [← kG]; exact List.mem_map.mpr ⟨p, hp, rfl⟩
          have := (reach_ok ho hxc ((hkr2 p.1).mp this)).len
          rw [z] at this
          have h1 := ho.rooms1
          simp at this
          omega
        refine ⟨.ref e, rfl, .ref nb, rfl, .ref g2, rfl, g2, gp, rfl, .inl eg12, hne, fun bs pB perm pw hbs npB => ?_⟩
        have s13 := same_new (o := .lst (bs.map fun b => V.ref b.2)) npB
        have hbl : bs.length = ks2.length := by
          have e1 := perm.length_eq
          rw [List.length_map, kG] at e1
          exact e1
        have hbk2 : ∀ y, y ∈ bs.map (·.1) ↔ Rch r x y := fun y => by
          rw [perm.mem_iff, kG, hkr2]
        have hbnd : (bs.map (·.1)).Nodup := perm.nodup_iff.mpr (by rw [kG]; exact nG)
        refine ⟨pB, rfl, ⟨_, SqL.of upd_same⟩, fun D2 nD2 => lc_map (walk_list (xs := bs.map fun b => V.ref b.2)) bs (by simp) (by rw [List.length_map]; omega) (fun b y H => ∃ t k, y = .ref t ∧ RankAt H t (b.1, k)) nD2 (fun _ _ _ _ t h => by obtain ⟨u, k, h1, h2⟩ := h; exact ⟨u, k, h1, h2.te t⟩) (fun H14 s14 => SqL.of (s14 _ _ upd_same)) (fun i b0 y H14 H15 KY hi s14 hy ky => ?_) (fun H14 ys s14 eD2 pr2 => ?_)⟩
        · obtain ⟨rfl, hy⟩ := hy
          obtain ⟨b1, hb1, rfl⟩ := map_at' hy
          rw [hi] at hb1
          cases hb1
          have eb := hbs b0 (List.mem_of_getElem? hi)
          have eb15 : TI H15 b0.2 b0.1 := s14 _ _ (s13 _ _ eb)
          have ef15 := s14 _ _ (s13 _ _ efr)
          obtain ⟨i0, hi0⟩ := int_getD (Ps := Pf) (c := b0.1) 1
          refine ⟨rfl, .ref b0.2, rfl, .ref fr, rfl, fr, rfl, .inr ⟨_, .inl ef15⟩, .ref b0.2, rfl, _, dget_c ef15 eb15, ?_⟩
          refine ⟨by show 2 ≤ sizeLine; decide, fun t nt => ky _ _ (same_new nt) ⟨t, i0, rfl, b0.2, ?_, same_new nt _ _ eb15⟩⟩
          rw [upd_same, hi0]
        · obtain ⟨ts3, rk, rfl, pts3, hkey⟩ := ranks_of2 (f := fun b : List Int × Addr => b.1) pr2
          have hrl : rk.length = ks2.length := by
            have := congrArg List.length hkey
            unfold keysOf at this
            rw [List.length_map, List.length_map] at this
            omega
          refine ⟨D2, _, rfl, SqL.of eD2, fun pp oo hoo npp => ⟨by show 3 ≤ sizeLine; decide, fun tt ntt => ?_⟩⟩
          have u2 := same_new (o := .frz oo (.tup (ts3.map V.ref))) npp
          have u3 := same_new (o := .tup [.ref e, .ref nb, .ref pp]) ntt
          have s814 := ((s9.trans s912).trans s13).trans s14
          have sall := (s08.trans s814).trans (u2.trans u3)
          refine q _ tt ⟨cs, ns, rk⟩ sall ⟨e, nb, pp, upd_same, (tsS sall).tup he, (u2.trans u3) _ _ (s814 _ _ enb), ts3, plT_te (tsS u3) (PlT.new hoo), paired_imp (fun _ _ h => h.te (tsS (u2.trans u3))) pts3⟩ ⟨hcs, by show ns.length ≤ 1000; omega, by show rk.length ≤ 1000; omega, fun z hz => ?_⟩ ?_ ?_ (by show rk.length ≤ 130; omega)
          · have hz2 := (hbk2 z.1).mp (by rw [← hkey]; exact List.mem_map.mpr ⟨z, hz, rfl⟩)
            exact (reach_ok ho hxc hz2).len
          · show (keysOf rk).Nodup
            rw [hkey]
            exact hbnd
          · intro z
            have z' : rk = [] := z
            rw [z'] at hrl
            have hx2 := (hkr2 x).mpr (.refl _)
            have := List.length_pos_of_mem hx2
            simp at hrl
            omega
end
end KH

namespace KH
open PySem PySem.Spec PyProof.Rows L2 KM
section
variable {P : Program} {w : World} {K : PySem.W.Frag} {mg : Str → Option Value} {base : Heap} {ad : Nat → Addr} {fd : Nat → FuncData}
/-! ### _law_holds_so -/
theorem mergeK_app : ∀ (ps acc : List (Key × V)), ((acc ++ ps).map (·.1)).Nodup → mergeK acc ps = acc ++ ps
  | [], acc, _ => by rw [List.append_nil]; rfl
  | p :: ps, acc, h => by
    have hp : p.1 ∉ acc.map (·.1) := by
      rw [List.map_append, List.nodup_append] at h
      intro hm
      exact h.2.2 p.1 hm p.1 (by simp) rfl
    have hn : valV acc p.1 = none := by
      cases e : valV acc p.1 with
      | none => rfl
      | some v => exact absurd (valV_in e) hp
    show mergeK (putK acc p.1 p.2) ps = _
    rw [putK_new _ hn, mergeK_app ps (acc ++ [(p.1, p.2)]) (by rw [List.append_assoc]; exact h), List.append_assoc]
    rfl
theorem valK_mem : ∀ {ps : List (Key × V)} {c : Key} {v : V}, (ps.map (·.1)).Nodup → (c, v) ∈ ps → valV ps c = some v
  | p :: ps, c, v, hn, h => by
    obtain ⟨h1, h2⟩ := List.nodup_cons.mp (show (p.1 :: ps.map (·.1)).Nodup from hn)
    rcases List.mem_cons.mp h with q | q
    · subst q
      exact valV_pos rfl
    · rw [valV_neg (fun z => h1 (List.mem_map.mpr ⟨(c, v), q, z.symm⟩))]
      exact valK_mem h2 q
theorem prs_steps {H : Hp} : ∀ {ts : List Addr} {ss : List (Nat × Crowd)}, Paired (StepAt H) ts ss → ∃ bs : List Addr, Paired (fun b (s : Nat × Crowd) => TI H b s.2) bs ss ∧ Paired (fun p (kv : Key × V) => SqT K H p [kV kv.1, kv.2]) ts ((ss.zip bs).map fun q => ((Sum.inl (q.1.1 : Int) : Key), V.ref q.2))
  | _, _, .nil => ⟨[], .nil, .nil⟩
  | _, _, .cons ⟨b, h1, h2⟩ t => by
    obtain ⟨bs, e1, e2⟩ := prs_steps t
    exact ⟨b :: bs, .cons h2 e1, .cons (SqT.of h1) e2⟩
def spHoldsSo : Sp := fun vs H Q _ => ∃ (a b x : Addr) (r : Rl) (qq : Qu) (p : Pap), vs = [.ref a, .ref b, .ref x] ∧ IsRule H a r ∧ r.Ok ∧ QAt H b qq ∧ qq.Ok r.starts.length ∧ qq.dep < 2 ∧ PapAt H x p ∧ p.Ok r ∧ Valid r qq p ∧
  ∀ H', Same H H' → Q (.bl true) H'
theorem ok59 (T : Tx K mg ad fd) : FnOk P w K mg base CX0 5 (ad 59) (fd 59) P59 spHoldsSo := by
  have nd := sc59.nd
  have G48 := ok48 (P := P) (w := w) (base := base) T
  have G51 := ok51 (P := P) (w := w) (base := base) T
  have G54 := ok54 (P := P) (w := w) (base := base) T
  refine T.f__law_holds_so.ok sc59 (fun vs H Q E h => ?_) (fun cdv A outer s H vs Q E hr h => ?_)
  · obtain ⟨a, b, x, r, qq, p, rfl, _⟩ := h
    rfl
  · obtain ⟨a, b, x, r, qq, p, rfl, hR, ho, hq, hqo, hqd, ⟨c, n, k, hp⟩, hpo, hv, q⟩ := h
    refine ⟨_, PSs.nox (pss_cons (ps_set (i := 3) nd rfl (Or.inl rfl) (pe_call G51 (hr.mono (by decide)) (by rfl) T.g__law_begun T.f__law_begun.kp T.b__law_begun .nil pass0 (pa_cons (pv 0) (pa_cons (pe_ix (KW.ixT K) (pv 2) pe_int (fun _ _ => rfl)) pa_nil))))
  (pss_cons (ps_for PassesOwn.never rfl (pi_tup (pe_ix (KW.ixT K) (pv 2) pe_int (fun _ _ => rfl))) (pg_name (i := 4) nd rfl (Or.inl rfl))
    (pss_one (ps_set (i := 3) nd rfl (Or.inl rfl) (pe_dget (hu_of hr) (pe_callTy (KW.dctP K) (by rfl) T.b_dict (by decide +kernel) (pa_cons (pe_call G48 (hr.mono (by decide)) (by rfl) T.g__law_steps T.f__law_steps.kp T.b__law_steps .nil pass0 (pa_cons (pv 0) (pa_cons (pv 3) pa_nil))) pa_nil)) (pv 4) (fun _ _ => rfl)))))
  (pss_one (ps_ret (pe_cmpR (KW.inDp K (hu_in hr)) (pv 3) (pe_call G54 (hr.mono (by decide)) (by rfl) T.g__law_lost T.f__law_lost.kp T.b__law_lost .nil pass0 (pa_cons (pv 0) (pa_cons (pv 1) (pa_cons (pe_ix (KW.ixT K) (pv 2) pe_int (fun _ _ => rfl)) pa_nil)))) (by with_unfolding_all rfl)))))), ?_⟩
    have hcs := hpo.cs
    have hbo := begun_ok ho hcs
    obtain ⟨g, hwg, hgk⟩ := hv.way
    refine ⟨.ref a, rfl, .ref x, rfl, x, _, 0, _, rfl, rfl, SqT.of hp.top, at_nat (n := 0) rfl, a, c, r, p.cs, rfl, hR, ho, hp.cs, hcs.len, fun H1 bb s1 nbb ebb => ?_⟩
    have hp1 := hp.te (tsS s1)
    refine ⟨.ref x, rfl, x, _, 1, _, rfl, rfl, SqT.of hp1.top, at_nat (n := 1) rfl, n, rfl, ⟨_, SqT.of hp1.ns⟩, ?_⟩
    refine for_it (walk_tup (xs := p.ns.map vn)) (fun i σ H2 => ∃ cb ci x4, σ = [some (.ref a), some (.ref b), some (.ref x), some (.ref cb), x4] ∧ Same H H2 ∧ TI H2 cb ci ∧ Cw r.rooms p.cs.sum ci ∧ walkTo r ci (p.ns.drop i) = some g)
      ⟨bb, _, none, rfl, s1, ebb, hbo, hwg⟩ (fun i σ H2 _ hp2 => ?_) (fun i y σ H2 H3 hi hp2 hy => ?_) (fun σ H2 hp2 => ?_)
    · obtain ⟨_, _, _, _, sm, _⟩ := hp2
      exact SqT.of (sm _ _ hp.ns)
    · obtain ⟨cb, ci, x4, rfl, sm, eci, hci, hw⟩ := hp2
      obtain ⟨rfl, hy⟩ := hy
      obtain ⟨m, hm, rfl⟩ := map_at' hy
      rw [drop_at hm] at hw
      obtain ⟨y, hs, hw'⟩ := walk_inv hw
      refine ⟨.ref a, rfl, .ref cb, rfl, a, cb, r, ci, p.cs.sum, rfl, hR.te (tsS sm), ho, eci, hci, fun H4 D s4 nD hD => ?_⟩
      obtain ⟨ts, eD, pts⟩ := hD
      obtain ⟨bs, pbs, pkv⟩ := prs_steps (K := K) pts
      have hbl : bs.length = (stepsL r ci).length := Paired.length pbs
      have hkeys : (((stepsL r ci).zip bs).map fun q => ((Sum.inl (q.1.1 : Int) : Key), V.ref q.2)).map (·.1) = (stepsL r ci).map fun s => (Sum.inl (s.1 : Int) : Key) := by
        rw [List.map_map]
        have e : ((fun x : Key × V => x.1) ∘ fun q : (Nat × Crowd) × Addr => ((Sum.inl (q.1.1 : Int) : Key), V.ref q.2)) = (fun s : Nat × Crowd => (Sum.inl (s.1 : Int) : Key)) ∘ Prod.fst := rfl
        rw [e, ← List.map_map, List.map_fst_zip (by omega)]
      have hnd : ((((stepsL r ci).zip bs).map fun q => ((Sum.inl (q.1.1 : Int) : Key), V.ref q.2)).map (·.1)).Nodup := by
        rw [hkeys]
        have e : ((stepsL r ci).map fun s => (Sum.inl (s.1 : Int) : Key)) = ((stepsL r ci).map (·.1)).map fun n : Nat => (Sum.inl (n : Int) : Key) := by rw [List.map_map]; rfl
        rw [e]
        refine List.Pairwise.map _ (fun a b h z => h ?_) (steps_nd r ci)
        have := Sum.inl.inj z
        omega
      refine ⟨D, ts, _, rfl, SqL.of eD, pkv, fun d nd' => ?_⟩
      rw [mergeK_app _ [] (by rw [List.nil_append]; exact hnd), List.nil_append]
      obtain ⟨j, hj⟩ := List.mem_iff_getElem?.mp hs
      obtain ⟨yb, hyb, eyb⟩ := paired_at pbs hj
      have hmem : ((Sum.inl (m : Int) : Key), V.ref yb) ∈ ((stepsL r ci).zip bs).map fun q => ((Sum.inl (q.1.1 : Int) : Key), V.ref q.2) :=
        List.mem_map.mpr ⟨((m, y), yb), List.mem_of_getElem? (i := j) (List.getElem?_zip_eq_some.mpr ⟨hj, hyb⟩), rfl⟩
      have s5 := same_new (o := .dK (((stepsL r ci).zip bs).map fun q => ((Sum.inl (q.1.1 : Int) : Key), V.ref q.2))) nd'
      refine ⟨_, rfl, d, .ref yb, rfl, ?_, yb, y, _, rfl, (sm.trans s4).trans s5, s5 _ _ eyb, succ_ok ho hci (mem_succs.mpr ⟨m, hs⟩), hw'⟩
      rw [← valK_mem hnd hmem]
      exact DGet.k (k := Sum.inl (m : Int)) upd_same
    · obtain ⟨cb, ci, x4, rfl, sm, eci, hci, hw⟩ := hp2
      rw [List.length_map, List.drop_length] at hw
      have eg : ci = g := Option.some.inj hw
      subst eg
      have hp2 := hp.te (tsS sm)
      refine ⟨.ref cb, rfl, .ref a, rfl, .ref b, rfl, .ref x, rfl, x, _, 0, _, rfl, rfl, SqT.of hp2.top, at_nat (n := 0) rfl, a, b, c, r, qq, p.cs, rfl, hR.te (tsS sm), ho, hq.te (tsS sm), hqo, hqd, hp2.cs, hcs, fun H3 d lk s3 nd' hL hlk => ?_⟩
      refine ⟨dInts ci, _, dp_ti (s3 _ _ eci), dp_crowds hL, shaped_ints _, shaped_list dInts3 _, ?_⟩
      rw [any_crowd, decide_eq_true ((hlk ci).mpr ⟨walk_reach hwg, valid_lost hv hgk⟩)]
      exact q H3 (sm.trans s3)
end
end KH

namespace KH
open PySem PySem.Spec PyProof.Rows L2 KM
section
variable {P : Program} {w : World} {K : PySem.W.Frag} {mg : Str → Option Value} {base : Heap} {ad : Nat → Addr} {fd : Nat → FuncData}
/-! ### _law_all_crowds -/
/-- a + (k,), however it is laid -/
theorem cat1 {H : Hp} {a b : Addr} {c : List Int} {k : Int} {Q : VK} (ha : TI H a c) (hb : H b = some (.tup [.int k])) (hc : c.length ≤ 1000) (q : ∀ p H', Same H H' → TI H' p (c ++ [k]) → Q (.ref p) H') : rCatA K (.ref a) (.ref b) H Q := by
  refine ⟨a, b, c.map V.int, [.int k], rfl, rfl, SqT.of ha, SqT.of hb, smallL (by rw [List.length_map]; show c.length + 1 ≤ 100000; omega), fun z => ?_, fun _ z => (nomatch z), fun _ _ p np => ?_⟩
  · have h0 : c = [] := List.map_eq_nil_iff.mp z
    exact q b H (Same.refl H) (by rw [h0]; exact hb)
  · refine q p _ (same_new np) ?_
    show _ = _
    rw [upd_same, List.map_append]
    rfl
structure RowsOk (i : Nat) (h : Int) (cs : List Crowd) : Prop where
  len : ∀ x ∈ cs, x.length = i
  pos : ∀ x ∈ cs, 0 ≤ x.sum ∧ x.sum ≤ h
def spAllCrowds : Sp := fun vs H Q _ => ∃ (n : Nat) (h : Int), vs = [vn n, .int h] ∧ 1 ≤ n ∧ n ≤ 5 ∧ 0 ≤ h ∧ h ≤ 4 ∧ ∀ H' d cs, Same H H' → CrowdsAt H' d cs → (∀ x ∈ cs, x.length = n) → cs.length ≤ 1000 → Q (.ref d) H'
theorem ok60 (T : Tx K mg ad fd) : FnOk P w K mg base CX0 1 (ad 60) (fd 60) P60 spAllCrowds := by
  have nd := sc60.nd
  refine T.f__law_all_crowds.ok sc60 (fun vs H Q E h => ?_) (fun cdv A outer s H vs Q E hr h => ?_)
  · obtain ⟨n, h, rfl, _⟩ := h
    rfl
  · obtain ⟨n, h, rfl, hn1, hn5, hh0, hh4, q⟩ := h
    refine ⟨_, PSs.nox (pss_cons (ps_set (i := 2) nd rfl (Or.inl rfl) (pe_lst (pa_cons (pe_tup pa_nil) pa_nil)))
  (pss_cons (ps_for PassesOwn.never rfl (pi_range1 (by rfl) T.b_range (pa_cons (pe_op op_sub (pv 0) pe_int) pa_nil)) (pg_name (i := 3) nd rfl (Or.inl rfl))
    (pss_cons (ps_set (i := 4) nd rfl (Or.inl rfl) (pe_lst pa_nil))
  (pss_cons (ps_for PassesOwn.never rfl (pi_list (pv 2)) (pg_name (i := 5) nd rfl (Or.inr rfl))
    (pss_one (ps_expr (pe_bm PySem.F.plainAttrs_list PySem.F.slot_list_extend PySem.F.type_list_extend mt_extend (pv 4) (pa_cons (pe_lc (own := [("_law_many", 6)]) (g := (gName 6)) (tt := tYes) (by rfl) nd (pi_range1 (by rfl) T.b_range (pa_cons (pe_op op_add (pe_op op_sub (pv 1) (pe_callB (KW.sumT K) (by rfl) T.b_sum (by decide +kernel) (pa_cons (pv 5) pa_nil))) pe_int) pa_nil)) (blkOk_by (N := N60) (sc := defScope (topS 60)) (by decide +kernel)) (fun _ _ _ _ _ => pg_name (i := 6) nd rfl (Or.inl rfl)) (fun _ _ _ _ _ => pts_nil) (fun _ _ _ _ _ => (pe_op (KW.catA K) (pv 5) (pe_tup (pa_cons (pv 6) pa_nil))))) pa_nil)))))
  (pss_one (ps_set (i := 2) nd rfl (Or.inl rfl) (pv 4))))))
  (pss_one (ps_ret (pe_lc (own := [("_law_row", 5)]) (g := (gName 5)) (tt := tYes) (by rfl) nd (pi_list (pv 2)) (blkOk_by (N := N60) (sc := defScope (topS 60)) (by decide +kernel)) (fun _ _ _ _ _ => pg_name (i := 5) nd rfl (Or.inl rfl)) (fun _ _ _ _ _ => pts_nil) (fun _ _ _ _ _ => (pe_op (KW.catA K) (pv 5) (pe_tup (pa_cons (pe_op op_sub (pv 1) (pe_callB (KW.sumT K) (by rfl) T.b_sum (by decide +kernel) (pa_cons (pv 5) pa_nil))) pa_nil))))))))), ?_⟩
    refine ⟨by show 0 ≤ sizeLine; decide, fun z nz => ⟨by show 1 ≤ sizeLine; decide, fun R0 nR0 => ?_⟩⟩
    have s1 : Same H (upd (upd H z (.tup [])) R0 (.lst [.ref z])) := (same_new nz).trans (same_new nR0)
    refine ⟨_, rfl, n, 1, rfl, rfl, (n : Int) - 1, rfl, by omega, by omega, ?_⟩
    refine for_it walk_range (fun i σ H1 => ∃ R rows x3 x4 x5 x6, σ = [some (vn n), some (.int h), some (.ref R), x3, x4, x5, x6] ∧ Same H H1 ∧ CrowdsAt H1 R rows ∧ RowsOk i h rows ∧ rows.length ≤ 5 ^ i)
      ⟨R0, [[]], none, none, none, none, rfl, s1, ⟨[z], upd_same, .cons (same_new nR0 _ _ upd_same) .nil⟩, ⟨fun x hx => by rw [List.mem_singleton.mp hx]; rfl, fun x hx => by rw [List.mem_singleton.mp hx]; exact ⟨by decide, hh0⟩⟩, by decide⟩ (fun i σ H1 _ _ => trivial) (fun i y σ H1 H2 hi hp hy => ?_) (fun σ H1 hp => ?_)
    · obtain ⟨R, rows, x3, x4, x5, x6, rfl, sm, hR, hro, hrl⟩ := hp
      obtain ⟨rfl, rfl⟩ := hy
      have hi4 : i < 4 := by omega
      have hrl2 : rows.length ≤ 125 := Nat.le_trans hrl (by have : i ≤ 3 := by omega
                                                            exact Nat.pow_le_pow_right (by decide : 0 < 5) this)
      obtain ⟨bs, hbl, eR, pR⟩ := hR.len
      refine ⟨Nat.zero_le _, fun G nG => ?_⟩
      have nG0 := same_free sm nG
      have s2 := same_new (o := .lst []) nG
      have hGR : G ≠ R := fun e => by rw [e, eR] at nG; cases nG
      have sm2 := sm.trans s2
      have eR2 := s2 _ _ eR
      refine ⟨.ref R, rfl, R, rfl, ⟨_, SqL.of eR2⟩, ?_⟩
      refine for_it (walk_list (xs := bs.map V.ref)) (fun j σ H3 => ∃ acc x3 x5 x6, σ = [some (vn n), some (.int h), some (.ref R), x3, some (.ref G), x5, x6] ∧ Same H H3 ∧ H3 R = some (.lst (bs.map V.ref)) ∧ Paired (TI H3) bs rows ∧ CrowdsAt H3 G acc ∧ RowsOk (i + 1) h acc ∧ acc.length ≤ 5 * j)
        ⟨[], _, _, _, rfl, sm2, eR2, paired_imp (fun _ _ h => (tsS s2).tup h) pR, ⟨[], upd_same, .nil⟩, ⟨(fun x hx => by cases hx), (fun x hx => by cases hx)⟩, Nat.le_refl _⟩ (fun j σ H3 _ hp => ?_) (fun j y σ H3 H4 hj hp hy => ?_) (fun σ H3 hp => ?_)
      · obtain ⟨_, _, _, _, _, _, e, _⟩ := hp
        exact SqL.of e
      · obtain ⟨acc, y3, y5, y6, rfl, sm3, eR3, pR3, hG, hao, hal⟩ := hp
        obtain ⟨rfl, hy⟩ := hy
        obtain ⟨b, hb, rfl⟩ := map_at' hy
        obtain ⟨c, hc, eb⟩ := paired_at' pR3 hb
        have hcm := List.mem_of_getElem? hc
        have hcl := hro.len c hcm
        obtain ⟨hcp, hcp2⟩ := hro.pos c hcm
        obtain ⟨us, hul, eG, pG⟩ := hG.len
        refine ⟨.ref G, rfl, .inl ⟨rfl, _, SqL.of eG⟩, .int h, rfl, .ref b, rfl, b, c, rfl, SqT.of eb, h, c.sum, rfl, rfl, _, 1, rfl, rfl, h - c.sum + 1, rfl, by omega, by omega, fun D nD => ?_⟩
        refine lc_map walk_range (List.range (h - c.sum + 1).toNat) (by simp) (by omega) (fun m y H => ∃ t, y = .ref t ∧ TI H t (c ++ [(m : Int)])) nD (fun _ _ _ _ t h => by obtain ⟨u, h1, h2⟩ := h; exact ⟨u, h1, t.tup h2⟩) (fun _ _ => trivial) (fun m mm y H5 H6 KY hm s5 hy ky => ?_) (fun H5 ys s5 eD pr => ?_)
        · obtain ⟨rfl, rfl⟩ := hy
          have hmm : mm = m := by
            obtain ⟨_, e⟩ := List.getElem?_eq_some_iff.mp hm
            rw [← e, List.getElem_range]
          subst hmm
          refine ⟨rfl, .ref b, rfl, .int (0 + (mm : Nat)), rfl, by show 1 ≤ sizeLine; decide, fun o no => ?_⟩
          have s6 := same_new (o := .tup [.int (0 + (mm : Nat))]) no
          refine cat1 (s6 _ _ (s5 _ _ eb)) upd_same (by omega) fun p H7 s7 ep => ky _ _ (s6.trans s7) ⟨p, rfl, ?_⟩
          rw [show (0 : Int) + (mm : Nat) = (mm : Nat) by omega] at ep
          exact ep
        · obtain ⟨vs', rfl, pvs⟩ := refs_of (S := fun (t : Addr) (m : Nat) => TI H5 t (c ++ [(m : Int)])) pr
          have pvs2 : Paired (TI H5) vs' ((List.range (h - c.sum + 1).toNat).map fun m : Nat => c ++ [(m : Int)]) := paired_mapR pvs
          have hvl : vs'.length = (h - c.sum + 1).toNat := by rw [Paired.length pvs]; simp
          have eG5 := s5 _ _ eG
          have hj3 : j < 125 := by
            have := (List.getElem?_eq_some_iff.mp hc).1
            omega
          refine ⟨G, D, _, _, rfl, rfl, eG5, eD, smallL (by rw [List.length_map, List.length_map]; omega), ?_⟩
          have t8 : Ts H5 (upd H5 G (.lst (us.map V.ref ++ vs'.map V.ref))) := Ts.put eG5 rfl
          refine ⟨acc ++ (List.range (h - c.sum + 1).toNat).map fun m : Nat => c ++ [(m : Int)], _, _, _, rfl, same_put (sm3.trans s5) nG0, by rw [upd_ne hGR.symm]; exact s5 _ _ eR3, paired_imp (fun _ _ h => t8.tup (s5 _ _ h)) pR3, ⟨us ++ vs', by rw [upd_same, List.map_append], paired_app (paired_imp (fun _ _ h => t8.tup (s5 _ _ h)) pG) (paired_imp (fun _ _ h => t8.tup h) pvs2)⟩, ⟨fun x hx => ?_, fun x hx => ?_⟩, ?_⟩
          · rcases List.mem_append.mp hx with q | q
            · exact hao.len x q
            · obtain ⟨m, _, rfl⟩ := List.mem_map.mp q
              rw [List.length_append, List.length_singleton, hcl]
          · rcases List.mem_append.mp hx with q | q
            · exact hao.pos x q
            · obtain ⟨m, hmr, rfl⟩ := List.mem_map.mp q
              have hm2 := List.mem_range.mp hmr
              rw [List.sum_append]
              simp
              omega
          · rw [List.length_append, List.length_map, List.length_range]
            omega
      · obtain ⟨acc, y3, y5, y6, rfl, sm3, eR3, pR3, hG, hao, hal⟩ := hp
        rw [List.length_map, hbl] at hal
        refine ⟨.ref G, rfl, G, acc, _, _, _, _, rfl, sm3, hG, hao, ?_⟩
        rw [Nat.pow_succ]
        omega
    · obtain ⟨R, rows, x3, x4, x5, x6, rfl, sm, hR, hro, hrl⟩ := hp
      have hi4 : ((n : Int) - 1).toNat = n - 1 := by omega
      rw [hi4] at hro hrl
      have hrl2 : rows.length ≤ 625 := Nat.le_trans hrl (by have : n - 1 ≤ 4 := by omega
                                                            exact Nat.pow_le_pow_right (by decide : 0 < 5) this)
      obtain ⟨bs, hbl, eR, pR⟩ := hR.len
      refine ⟨.ref R, rfl, R, rfl, ⟨_, SqL.of eR⟩, fun D nD => ?_⟩
      refine lc_map (walk_list (xs := bs.map V.ref)) rows (by rw [List.length_map, hbl]) (by rw [List.length_map]; omega) (fun c y H => ∃ t, y = .ref t ∧ TI H t (c ++ [h - c.sum])) nD (fun _ _ _ _ t h => by obtain ⟨u, h1, h2⟩ := h; exact ⟨u, h1, t.tup h2⟩) (fun H5 s5 => SqL.of (s5 _ _ eR)) (fun m c y H5 H6 KY hm s5 hy ky => ?_) (fun H5 ys s5 eD pr => ?_)
      · obtain ⟨rfl, hy⟩ := hy
        obtain ⟨b, hb, rfl⟩ := map_at' hy
        obtain ⟨c', hc', eb⟩ := paired_at' pR hb
        rw [hm] at hc'
        cases hc'
        have hcl := hro.len c (List.mem_of_getElem? hm)
        refine ⟨rfl, .ref b, rfl, .int h, rfl, .ref b, rfl, b, c, rfl, SqT.of (s5 _ _ eb), h, c.sum, rfl, rfl, by show 1 ≤ sizeLine; decide, fun o no => ?_⟩
        have s6 := same_new (o := .tup [.int (h - c.sum)]) no
        exact cat1 (s6 _ _ (s5 _ _ eb)) upd_same (by omega) fun p H7 s7 ep => ky _ _ (s6.trans s7) ⟨p, rfl, ep⟩
      · obtain ⟨vs', rfl, pvs⟩ := refs_of (S := fun (t : Addr) (c : Crowd) => TI H5 t (c ++ [h - c.sum])) pr
        have pvs2 : Paired (TI H5) vs' (rows.map fun c => c ++ [h - c.sum]) := paired_mapR pvs
        refine q H5 D _ (sm.trans s5) ⟨vs', eD, pvs2⟩ (fun x hx => ?_) (by rw [List.length_map]; omega)
        obtain ⟨c, hc, rfl⟩ := List.mem_map.mp hx
        rw [List.length_append, List.length_singleton, hro.len c hc]
        omega
end
end KH

namespace KH
open PySem PySem.Spec PyProof.Rows L2 KM
section
variable {P : Program} {w : World} {K : PySem.W.Frag} {mg : Str → Option Value} {base : Heap} {ad : Nat → Addr} {fd : Nat → FuncData}
theorem nats_of {α : Type} {n : Nat} : ∀ {as : List α} {ys : List V}, Paired (fun _ y => ∃ m : Nat, y = vn m ∧ m < n) as ys → ∃ l : List Nat, ys = l.map vn ∧ l.length = as.length ∧ ∀ x ∈ l, x < n
  | _, _, .nil => ⟨[], rfl, rfl, fun x hx => by cases hx⟩
  | _, _, .cons ⟨m, e, h⟩ t => by
    obtain ⟨l, e1, e2, e3⟩ := nats_of t
    refine ⟨m :: l, by rw [e, e1]; rfl, by rw [List.length_cons, List.length_cons, e2], fun x hx => ?_⟩
    rcases List.mem_cons.mp hx with q | q
    · rw [q]; exact h
    · exact e3 x q
theorem bools_of {α : Type} : ∀ {as : List α} {ys : List V}, Paired (fun _ y => ∃ b : Bool, y = V.bl b) as ys → ∃ l : List Bool, ys = l.map V.bl ∧ l.length = as.length
  | _, _, .nil => ⟨[], rfl, rfl⟩
  | _, _, .cons ⟨b, e⟩ t => by
    obtain ⟨l, e1, e2⟩ := bools_of t
    exact ⟨b :: l, by rw [e, e1]; rfl, by rw [List.length_cons, List.length_cons, e2]⟩
theorem sorts_at {j : Nat} (h : j < 5) : ∃ s : Nat, atI [V.int 1, V.int 2, V.int 2, V.int 3, V.int 4] (j : Int) = some (vn s) ∧ 1 ≤ s ∧ s ≤ 4 := by
  match j, h with
  | 0, _ => exact ⟨1, at_nat (n := 0) rfl, by decide, by decide⟩
  | 1, _ => exact ⟨2, at_nat (n := 1) rfl, by decide, by decide⟩
  | 2, _ => exact ⟨2, at_nat (n := 2) rfl, by decide, by decide⟩
  | 3, _ => exact ⟨3, at_nat (n := 3) rfl, by decide, by decide⟩
  | 4, _ => exact ⟨4, at_nat (n := 4) rfl, by decide, by decide⟩
/-- lists of ints -/
theorem dp_ilist {H : Hp} {L : Addr} {c : List Int} (h : H L = some (.lst (c.map V.int))) : Dp K H (.ref L) (.list (c.map .int)) := .lst (SqL.of h) (dp_ints c)
theorem int3 (i : Int) : (PyData.int i).canLay0 = true ∧ (PyData.int i).depth ≤ 3 := by simp [PyData.canLay0, PyData.depth]
/-! ### _law_rule -/
def spRule : Sp := fun vs H Q _ => ∃ (f : Addr) (k : Nat), vs = [.ref f, .int 4] ∧ FeedAt H f k ∧ k ≤ 50000 ∧ ∀ H' a r, SameB f H H' → FeedAt H' f (k + 100) → IsRule H' a r → r.Ok → Q (.ref a) H'
theorem ok43 (T : Tx K mg ad fd) : FnOk P w K mg base CX0 2 (ad 43) (fd 43) P43 spRule := by
  have nd := sc43.nd
  have G42 := ok42 (P := P) (w := w) (base := base) T
  refine T.f__law_rule.ok sc43 (fun vs H Q E h => ?_) (fun cdv A outer s H vs Q E hr h => ?_)
  · obtain ⟨f, k, rfl, _⟩ := h
    rfl
  · obtain ⟨f, k, rfl, hf, hk, q⟩ := h
    refine ⟨_, PSs.nox (pss_cons (ps_set (i := 2) nd rfl (Or.inr rfl) (pe_op op_add pe_int (pe_call G42 (hr.mono (by decide)) (by rfl) T.g__law_draw T.f__law_draw.kp T.b__law_draw .nil pass0 (pa_cons (pv 0) (pa_cons (pv 1) pa_nil)))))
  (pss_cons (ps_set (i := 3) nd rfl (Or.inl rfl) (pe_ix (KW.ixL K) (pe_lst (pa_cons pe_int (pa_cons pe_int (pa_cons pe_int (pa_cons pe_int (pa_cons pe_int pa_nil)))))) (pe_call G42 (hr.mono (by decide)) (by rfl) T.g__law_draw T.f__law_draw.kp T.b__law_draw .nil pass0 (pa_cons (pv 0) (pa_cons pe_int pa_nil))) (fun _ _ => rfl)))
  (pss_cons (ps_set (i := 4) nd rfl (Or.inl rfl) (pe_callTy (KW.tupO K) (by rfl) T.b_tuple (by decide +kernel) (pa_cons (pe_lc (own := [("_law_sort", 12)]) (g := (gName 12)) (tt := tYes) (by rfl) nd (pi_range1 (by rfl) T.b_range (pa_cons (pv 3) pa_nil)) (blkOk_by (N := N43) (sc := defScope (topS 43)) (by decide +kernel)) (fun _ _ _ _ _ => pg_name (i := 12) nd rfl (Or.inl rfl)) (fun _ _ _ _ _ => pts_nil) (fun _ _ _ _ _ => (pe_call G42 (hr.mono (by decide)) (by rfl) T.g__law_draw T.f__law_draw.kp T.b__law_draw .nil pass0 (pa_cons (pv 0) (pa_cons (pv 2) pa_nil))))) pa_nil)))
  (pss_cons (ps_set (i := 5) nd rfl (Or.inl rfl) (pe_callTy (KW.tupO K) (by rfl) T.b_tuple (by decide +kernel) (pa_cons (pe_lc (own := [("_law_room", 13)]) (g := (gName 13)) (tt := tYes) (by rfl) nd (pi_range1 (by rfl) T.b_range (pa_cons (pv 2) pa_nil)) (blkOk_by (N := N43) (sc := defScope (topS 43)) (by decide +kernel)) (fun _ _ _ _ _ => pg_name (i := 13) nd rfl (Or.inl rfl)) (fun _ _ _ _ _ => pts_nil) (fun _ _ _ _ _ => (pe_cmpR op_eq (pe_call G42 (hr.mono (by decide)) (by rfl) T.g__law_draw T.f__law_draw.kp T.b__law_draw .nil pass0 (pa_cons (pv 0) (pa_cons pe_int pa_nil))) pe_int (nomark _)))) pa_nil)))
  (pss_cons (ps_set (i := 6) nd rfl (Or.inl rfl) (pe_op op_add pe_int (pe_call G42 (hr.mono (by decide)) (by rfl) T.g__law_draw T.f__law_draw.kp T.b__law_draw .nil pass0 (pa_cons (pv 0) (pa_cons pe_int pa_nil)))))
  (pss_cons (ps_set (i := 7) nd rfl (Or.inl rfl) (pe_lst pa_nil))
  (pss_cons (ps_for PassesOwn.never rfl (pi_range1 (by rfl) T.b_range (pa_cons (pv 2) pa_nil)) (pg_name (i := 8) nd rfl (Or.inl rfl))
    (pss_one (ps_for PassesOwn.never rfl (pi_range2 (by rfl) T.b_range (pa_cons (pv 8) (pa_cons (pv 2) pa_nil))) (pg_name (i := 9) nd rfl (Or.inl rfl))
    (pss_cons (ps_set (i := 10) nd rfl (Or.inl rfl) (pe_call G42 (hr.mono (by decide)) (by rfl) T.g__law_draw T.f__law_draw.kp T.b__law_draw .nil pass0 (pa_cons (pv 0) (pa_cons (pv 2) pa_nil))))
  (pss_cons (ps_set (i := 11) nd rfl (Or.inl rfl) (pe_call G42 (hr.mono (by decide)) (by rfl) T.g__law_draw T.f__law_draw.kp T.b__law_draw .nil pass0 (pa_cons (pv 0) (pa_cons (pv 2) pa_nil))))
  (pss_one (ps_if (PW.pt (pw_and (pt_cmpR op_eq (pe_call G42 (hr.mono (by decide)) (by rfl) T.g__law_draw T.f__law_draw.kp T.b__law_draw .nil pass0 (pa_cons (pv 0) (pa_cons (pv 6) pa_nil))) pe_int (nomark _)) (pw_and1 (pt_cmpR (KW.neDp K (hu_eq hr)) (pe_callB (KW.srt K) (by rfl) T.b_sorted (by decide +kernel) (pa_cons (pe_lst (pa_cons (pv 10) (pa_cons (pv 11) pa_nil))) pa_nil)) (pe_lst (pa_cons (pv 8) (pa_cons (pv 9) pa_nil))) (nomark _)))))
    (pss_one (ps_expr (pe_bm PySem.F.plainAttrs_list PySem.F.slot_list_append PySem.F.type_list_append mt_append (pv 7) (pa_cons (pe_tup (pa_cons (pv 8) (pa_cons (pv 9) (pa_cons (pv 10) (pa_cons (pv 11) pa_nil))))) pa_nil))))
    pss_nil)))))))
  (pss_one (ps_ret (pe_tup (pa_cons (pv 2) (pa_cons (pv 4) (pa_cons (pe_callTy (KW.tupO K) (by rfl) T.b_tuple (by decide +kernel) (pa_cons (pv 7) pa_nil)) (pa_cons (pv 5) pa_nil)))))))))))))), ?_⟩
    refine ⟨.ref f, rfl, .int 4, rfl, f, k, 4, rfl, hf, by omega, by decide, by decide, fun H1 d b1 hf1 h0 h4 => ⟨1, d, rfl, rfl, ?_⟩⟩
    obtain ⟨n, hn⟩ : ∃ n : Nat, 1 + d = (n : Int) := ⟨(1 + d).toNat, by omega⟩
    have hn1 : 1 ≤ n := by omega
    have hn4 : n ≤ 4 := by omega
    show gName 2 (.int (1 + d)) _ _ _
    rw [hn]
    refine ⟨by show 5 ≤ sizeLine; decide, fun W nW => ?_⟩
    have hWf := hf1.ne nW
    have hf2 := hf1.same (same_new (o := .lst [.int 1, .int 2, .int 2, .int 3, .int 4]) nW)
    have b2 := sameB_new (o := .lst [.int 1, .int 2, .int 2, .int 3, .int 4]) b1 nW
    refine ⟨.ref f, rfl, f, k + 1, 5, rfl, hf2, by omega, by decide, by decide, fun H3 j b3 hf3 hj0 hj5 => ?_⟩
    obtain ⟨j, rfl⟩ := Int.eq_ofNat_of_zero_le hj0
    obtain ⟨so, hso, hs1, hs4⟩ := sorts_at (j := j) (by omega)
    have b03 := b2.trans b3
    refine ⟨W, _, _, _, rfl, rfl, SqL.of (b3 _ _ hWf upd_same), hso, ?_⟩
    -- starts
    refine ⟨vn so, rfl, (so : Int), rfl, rng_lo, rng_hi (by omega), fun D nD => ?_⟩
    have nD0 := hf3.free b03 nD
    have hDf := hf3.ne nD
    refine lc_genm walk_range (List.range so) (by simp) (by simp; omega) (fun _ y _ => ∃ m : Nat, y = vn m ∧ m < n) (fun i H => SameB f H3 H ∧ FeedAt H f (k + 2 + i)) (fun _ _ _ _ _ h => h) ⟨SameB.of (same_new nD), hf3.same (same_new nD)⟩ (fun _ _ _ => trivial) (fun i a x H4 H5 acc KY ha iv eD hy ky => ?_) (fun H4 ys iv eD pr => ?_)
    · obtain ⟨rfl, rfl⟩ := hy
      obtain ⟨b4, hf4⟩ := iv
      have hi : i < so := by have := (List.getElem?_eq_some_iff.mp ha).1; simpa using this
      refine ⟨rfl, .ref f, rfl, vn n, rfl, f, k + 2 + i, (n : Int), rfl, hf4, by omega, by omega, by omega, fun H6 m b6 hf6 h0 hm => ?_⟩
      obtain ⟨m, rfl⟩ := Int.eq_ofNat_of_zero_le h0
      exact ky _ _ (b6 _ _ hDf eD) (hf4.te b6) ⟨m, rfl, by omega⟩ ⟨sameB_put (b4.trans b6) nD, hf6.put hDf⟩
    obtain ⟨b4, hf4⟩ := iv
    obtain ⟨sts, rfl, hsl, hst⟩ := nats_of pr
    have hf4 : FeedAt H4 f (k + 6) := hf4.mono (by simp; omega)
    have b04 := b03.trans b4
    refine ⟨D, _, rfl, SqL.of eD, fun sa nsa => ?_⟩
    have hf5 := hf4.same (same_new (o := .tup (sts.map vn)) nsa)
    have b05 := sameB_new (o := .tup (sts.map vn)) b04 nsa
    have esa : (upd H4 sa (.tup (sts.map vn))) sa = some (.tup (sts.map vn)) := upd_same
    obtain ⟨H5, eH5⟩ : ∃ H5, H5 = upd H4 sa (.tup (sts.map vn)) := ⟨_, rfl⟩
    rw [← eH5] at hf5 b05 esa ⊢
    -- says
    refine ⟨vn n, rfl, (n : Int), rfl, rng_lo, rng_hi (by omega), fun D2 nD2 => ?_⟩
    have hDf2 := hf5.ne nD2
    refine lc_genm walk_range (List.range n) (by simp) (by simp; omega) (fun _ y _ => ∃ b : Bool, y = .bl b) (fun i H => SameB f H5 H ∧ FeedAt H f (k + 6 + i)) (fun _ _ _ _ _ h => h) ⟨SameB.of (same_new nD2), hf5.same (same_new nD2)⟩ (fun _ _ _ => trivial) (fun i a x H6 H7 acc KY ha iv eD hy ky => ?_) (fun H6 ys iv eD2 pr2 => ?_)
    · obtain ⟨rfl, rfl⟩ := hy
      obtain ⟨b6, hf6⟩ := iv
      have hi : i < n := by have := (List.getElem?_eq_some_iff.mp ha).1; simpa using this
      refine ⟨rfl, .ref f, rfl, f, k + 6 + i, 2, rfl, hf6, by omega, by decide, by decide, fun H8 m b8 hf8 h0 hm => ⟨rfl, ?_⟩⟩
      exact ky _ _ (b8 _ _ hDf2 eD) (hf6.te b8) ⟨_, rfl⟩ ⟨sameB_put (b6.trans b8) nD2, hf8.put hDf2⟩
    obtain ⟨b6, hf6⟩ := iv
    obtain ⟨bls, rfl, hbl⟩ := bools_of pr2
    have hf6 : FeedAt H6 f (k + 10) := hf6.mono (by simp; omega)
    have t6 : Ts H5 H6 := hf5.te b6
    refine ⟨D2, _, rfl, SqL.of eD2, fun ya nya => ?_⟩
    have hf7 := hf6.same (same_new (o := .tup (bls.map V.bl)) nya)
    have b57 := sameB_new (o := .tup (bls.map V.bl)) b6 nya
    have eya : (upd H6 ya (.tup (bls.map V.bl))) ya = some (.tup (bls.map V.bl)) := upd_same
    have esa7 : (upd H6 ya (.tup (bls.map V.bl))) sa = some (.tup (sts.map vn)) := same_new nya _ _ (t6.tup esa)
    obtain ⟨H7, eH7⟩ : ∃ H7, H7 = upd H6 ya (.tup (bls.map V.bl)) := ⟨_, rfl⟩
    rw [← eH7] at hf7 b57 eya esa7 ⊢
    have b07 := b05.trans b57
    -- often
    refine ⟨.ref f, rfl, f, k + 10, 3, rfl, hf7, by omega, by decide, by decide, fun H8 od b8 hf8 ho0 ho3 => ⟨1, od, rfl, rfl, ?_⟩⟩
    have b08 := b07.trans b8
    have t8 := hf7.te b8
    refine ⟨Nat.zero_le _, fun M nM => ?_⟩
    have nM0 := hf8.free b08 nM
    have hMf := hf8.ne nM
    have b09 := sameB_new (o := .lst []) b08 nM
    have hf9 := hf8.same (same_new (o := .lst []) nM)
    have s9 := same_new (o := .lst []) nM
    refine ⟨vn n, rfl, (n : Int), rfl, rng_lo, rng_hi (by omega), ?_⟩
    have hsl' : sts.length = so := by rw [hsl, List.length_range]
    have hbl' : bls.length = n := by rw [hbl, List.length_range]
    refine for_it walk_range (fun i σ H10 => ∃ ms meets x8 x9 x10 x11 x12 x13, σ = [some (.ref f), some (.int 4), some (vn n), some (vn so), some (.ref sa), some (.ref ya), some (.int (1 + od)), some (.ref M), x8, x9, x10, x11, x12, x13] ∧ SameB f H H10 ∧ FeedAt H10 f (k + 11 + 12 * i) ∧ H10 sa = some (.tup (sts.map vn)) ∧ H10 ya = some (.tup (bls.map V.bl)) ∧ H10 M = some (.lst (ms.map V.ref)) ∧ Paired (MeetAt H10) ms meets ∧ (∀ m ∈ meets, Mt.Ok m n) ∧ meets.length ≤ 4 * i)
      ⟨[], [], none, none, none, none, _, _, rfl, b09, hf9, s9 _ _ (t8.tup esa7), s9 _ _ (t8.tup eya), upd_same, .nil, (fun m hm => by cases hm), Nat.le_refl _⟩ (fun i σ H10 _ _ => trivial) (fun i y σ H10 H11 hi hp hy => ?_) (fun σ H10 hp => ?_)
    · obtain ⟨ms, meets, x8, x9, x10, x11, x12, x13, rfl, b10, hf10, es10, ey10, eM10, pM10, hok, hml⟩ := hp
      obtain ⟨rfl, rfl⟩ := hy
      have hin : i < n := by simpa using hi
      have e0 : (0 : Int) + (i : Nat) = (i : Nat) := by omega
      show gName 8 (.int (0 + (i : Nat))) _ _ _
      rw [e0]
      refine ⟨vn i, rfl, vn n, rfl, (i : Int), (n : Int), rfl, ⟨by omega, by omega, by omega, by omega⟩, ?_⟩
      refine for_it walk_range (fun j σ H12 => ∃ ms meets x9 x10 x11 x12 x13, σ = [some (.ref f), some (.int 4), some (vn n), some (vn so), some (.ref sa), some (.ref ya), some (.int (1 + od)), some (.ref M), some (vn i), x9, x10, x11, x12, x13] ∧ SameB f H H12 ∧ FeedAt H12 f (k + 11 + 12 * i + 3 * j) ∧ H12 sa = some (.tup (sts.map vn)) ∧ H12 ya = some (.tup (bls.map V.bl)) ∧ H12 M = some (.lst (ms.map V.ref)) ∧ Paired (MeetAt H12) ms meets ∧ (∀ m ∈ meets, Mt.Ok m n) ∧ meets.length ≤ 4 * i + j)
        ⟨ms, meets, _, _, _, _, _, rfl, b10, hf10, es10, ey10, eM10, pM10, hok, hml⟩ (fun j σ H12 _ _ => trivial) (fun j y σ H12 H13 hj hp hy => ?_) (fun σ H12 hp => ?_)
      · obtain ⟨ms, meets, x9, x10, x11, x12, x13, rfl, b12, hf12, es12, ey12, eM12, pM12, hok, hml⟩ := hp
        obtain ⟨rfl, rfl⟩ := hy
        have hjn : i + j < n := by omega
        have e1 : (i : Int) + (j : Nat) = ((i + j : Nat) : Int) := by omega
        show gName 9 (.int ((i : Int) + (j : Nat))) _ _ _
        rw [e1]
        refine ⟨.ref f, rfl, vn n, rfl, f, _, (n : Int), rfl, hf12, by omega, by omega, by omega, fun H14 c b14 hf14 hc0 hcn => ?_⟩
        obtain ⟨c, rfl⟩ := Int.eq_ofNat_of_zero_le hc0
        refine ⟨.ref f, rfl, vn n, rfl, f, _, (n : Int), rfl, hf14, by omega, by omega, by omega, fun H15 d' b15 hf15 hd0 hdn => ?_⟩
        obtain ⟨d', rfl⟩ := Int.eq_ofNat_of_zero_le hd0
        refine ⟨.ref f, rfl, .int (1 + od), rfl, f, _, 1 + od, rfl, hf15, by omega, by omega, by omega, fun H16 z b16 hf16 hz0 hzn => ⟨rfl, _, rfl, ?_⟩⟩
        have t14 := hf12.te b14
        have t15 := hf14.te b15
        have t16 := hf15.te b16
        have t1216 := (t14.trans t15).trans t16
        have b1216 := (b14.trans b15).trans b16
        have b016 := b12.trans b1216
        have eM16 := b1216 _ _ hMf eM12
        have pM16 : Paired (MeetAt H16) ms meets := paired_imp (fun _ _ h => t1216.tup h) pM12
        cases hz : decide (V.int z = V.int 0) with
        | false =>
          exact iteF ⟨ms, meets, _, _, _, _, _, rfl, b016, hf16.mono (by omega), t1216.tup es12, t1216.tup ey12, eM16, pM16, hok, by omega⟩
        | true =>
          refine iteT ⟨_, rfl, _, rfl, by show 2 ≤ sizeLine; decide, fun L1 nL1 => ⟨L1, [(c : Int), (d' : Int)], rfl, SqL.of upd_same, by show 2 < 64; decide, fun ns' L2' perm _ nL2 => ?_⟩⟩
          have s17 := same_new (o := .lst [.int (c : Int), .int (d' : Int)]) nL1
          have s18 := s17.trans (same_new (o := .lst (ns'.map V.int)) nL2)
          refine ⟨_, rfl, _, rfl, by show 2 ≤ sizeLine; decide, fun L3 nL3 => ?_⟩
          have s19 := s18.trans (same_new (o := .lst [.int (i : Int), .int ((i + j : Nat) : Int)]) nL3)
          refine ⟨.list (ns'.map .int), .list ([(i : Int), ((i + j : Nat) : Int)].map .int), dp_ilist (same_new nL3 _ _ upd_same), dp_ilist upd_same, shaped_list int3 _, shaped_list int3 _, _, rfl, ?_⟩
          have b019 := b016.trans (SameB.of s19)
          have hf19 := hf16.same s19
          have t19 := t1216.trans (tsS s19)
          have eM19 := s19 _ _ eM16
          have pM19f : ∀ H' : Hp, Ts H16 H' → Paired (MeetAt H') ms meets := fun H' t => paired_imp (fun _ _ h => t.tup h) pM16
          have pM19 := pM19f _ (tsS s19)
          cases hne : (!PyData.eqv (.list (ns'.map .int)) (.list ([(i : Int), ((i + j : Nat) : Int)].map .int))) with
          | false => exact iteF ⟨ms, meets, _, _, _, _, _, rfl, b019, hf19.mono (by omega), t19.tup es12, t19.tup ey12, eM19, pM19, hok, by omega⟩
          | true =>
            refine iteT ⟨.ref M, rfl, .inl ⟨rfl, _, SqL.of eM19⟩, vn i, rfl, vn (i + j), rfl, vn c, rfl, vn d', rfl, by show 4 ≤ sizeLine; decide, fun mt nmt => ?_⟩
            have s20 := same_new (o := .tup [vn i, vn (i + j), vn c, vn d']) nmt
            have eM20 := s20 _ _ eM19
            have hmsl : ms.length = meets.length := Paired.length pM12
            have t21 := Ts.put (o := .lst (ms.map V.ref ++ [V.ref mt])) eM20 rfl
            have t21' := (t19.trans (tsS s20)).trans t21
            refine ⟨M, _, _, rfl, rfl, eM20, small (by rw [List.length_map]; omega), ?_⟩
            refine ⟨ms ++ [mt], meets ++ [⟨i, i + j, c, d'⟩], _, _, _, _, _, rfl, sameB_put (b019.trans (SameB.of s20)) nM0, ((hf19.same s20).put hMf).mono (by omega), t21'.tup es12, t21'.tup ey12, by rw [upd_same, List.map_append]; rfl, paired_snoc (paired_imp (fun _ _ h => t21.tup (s20 _ _ h)) pM19) (t21.tup upd_same), fun m hm => ?_, by rw [List.length_append, List.length_singleton]; omega⟩
            rcases List.mem_append.mp hm with h | h
            · exact hok m h
            · rw [List.mem_singleton.mp h]
              exact ⟨hin, hjn, by show c < n; omega, by show d' < n; omega⟩
      · obtain ⟨ms, meets, x9, x10, x11, x12, x13, rfl, b12, hf12, es12, ey12, eM12, pM12, hok, hml⟩ := hp
        have hj4 : ((n : Int) - (i : Int)).toNat ≤ 4 := by omega
        exact ⟨ms, meets, _, _, _, _, _, _, rfl, b12, hf12.mono (by omega), es12, ey12, eM12, pM12, hok, by omega⟩
    · obtain ⟨ms, meets, x8, x9, x10, x11, x12, x13, rfl, b10, hf10, es10, ey10, eM10, pM10, hok, hml⟩ := hp
      have hnn : ((n : Int)).toNat = n := by omega
      rw [hnn] at hf10 hml
      refine ⟨vn n, rfl, .ref sa, rfl, .ref M, rfl, M, _, rfl, SqL.of eM10, fun ma nma => ⟨.ref ya, rfl, by show 4 ≤ sizeLine; decide, fun ra nra => ?_⟩⟩
      have s1' := same_new (o := .tup (ms.map V.ref)) nma
      have s2' := same_new (o := .tup [vn n, .ref sa, .ref ma, .ref ya]) nra
      have s12 := s1'.trans s2'
      refine q _ ra ⟨n, sts, meets, bls⟩ (sameB_new (sameB_new b10 nma) nra) ((hf10.same s12).mono (by omega)) ⟨sa, ma, ya, ms, upd_same, s12 _ _ es10, s2' _ _ upd_same, paired_imp (fun _ _ h => s12 _ _ h) pM10, s12 _ _ ey10⟩ ⟨hn1, by show n ≤ 5; omega, by show 1 ≤ sts.length; omega, by show sts.length ≤ 4; omega, hst, hok, by show meets.length ≤ 100; omega, hbl'⟩
end
end KH

namespace KH
open PySem PySem.Spec PyProof.Rows L2 KM
section
variable {J : It} {n : Nat} {G : Hp → Prop} {Y : Nat → Hp → V → Hp → Prop} {g : TG} {tt : TT} {te : TE} {vs : List Nat} {σ : L2.St} {H1 : Hp} {D : Addr} {Qd : Hp → Prop}
/-- some of the items, whichever pass -/
theorem lc_some (w : Walk J n G Y) (hsm : n ≤ 100000) (R : V → Hp → Prop) (Iv : Nat → Hp → Prop)
    (Rst : ∀ y H H', Ts H H' → R y H → R y H') (h0 : Iv 0 (upd H1 D (.lst []))) (hG : ∀ i H, Iv i H → G H)
    (hs : ∀ (i : Nat) (x : V) (H H' : Hp) (acc : List V) (KY : V → Hp → Prop) (KN : Hp → Prop), i < n → Iv i H → H D = some (.lst acc) → Y i H x H' →
      (∀ y H4, H4 D = some (.lst acc) → Ts H H4 → R y H4 → Iv (i + 1) (upd H4 D (.lst (acc ++ [y]))) → KY y H4) →
      (∀ H3, H3 D = some (.lst acc) → Ts H H3 → Iv (i + 1) H3 → KN H3) →
      g x (wipe σ vs) H' fun σ2 H2 => wipe σ2 vs = wipe σ vs ∧ tt σ2 H2 fun b H3 => if b = true then te σ2 H3 KY else KN H3)
    (hd : ∀ H ys, Iv n H → H D = some (.lst ys) → ys.length ≤ n → (∀ y ∈ ys, R y H) → Qd H) : LcQ J g tt te vs σ H1 D Qd := by
  refine lc_it w (fun i H => Iv i H ∧ ∃ ys, H D = some (.lst ys) ∧ ys.length ≤ i ∧ ∀ y ∈ ys, R y H) ⟨h0, [], upd_same, Nat.le_refl _, fun y hy => by cases hy⟩ (fun i H _ q => hG i H q.1) (fun i x H H' hi q y => ?_) (fun H q => ?_)
  · obtain ⟨q1, ys, eD, hl, pr⟩ := q
    refine hs i x H H' ys _ _ hi q1 eD y (fun z H4 e4 t4 r4 iv => ⟨ys, e4, small (by omega), iv, ys ++ [z], upd_same, by rw [List.length_append, List.length_singleton]; omega, fun v hv => ?_⟩) (fun H3 e3 t3 iv => ⟨iv, ys, e3, by omega, fun v hv => Rst _ _ _ t3 (pr v hv)⟩)
    have t5 : Ts H (upd H4 D (.lst (ys ++ [z]))) := t4.trans (Ts.put e4 rfl)
    rcases List.mem_append.mp hv with h | h
    · exact Rst _ _ _ t5 (pr v h)
    · rw [List.mem_singleton.mp h]
      exact Rst _ _ _ (Ts.put e4 rfl) r4
  · obtain ⟨q1, ys, eD, hl, pr⟩ := q
    exact hd H ys q1 eD hl pr
end
section
variable {P : Program} {w : World} {K : PySem.W.Frag} {mg : Str → Option Value} {base : Heap} {ad : Nat → Addr} {fd : Nat → FuncData}
theorem vns_of {n : Nat} : ∀ {ys : List V}, (∀ y ∈ ys, ∃ m : Nat, y = vn m ∧ m < n) → ∃ l : List Nat, ys = l.map vn ∧ ∀ x ∈ l, x < n
  | [], _ => ⟨[], rfl, fun x hx => by cases hx⟩
  | y :: ys, h => by
    obtain ⟨m, e, hm⟩ := h y List.mem_cons_self
    obtain ⟨l, e1, e2⟩ := vns_of fun z hz => h z (List.mem_cons_of_mem _ hz)
    refine ⟨m :: l, by rw [e, e1]; rfl, fun x hx => ?_⟩
    rcases List.mem_cons.mp hx with q | q
    · rw [q]; exact hm
    · exact e2 x q
theorem cutV_map {α : Type} (f : α → V) (l : List α) (lo hi : Option Int) : ∃ l' : List α, cutV (l.map f) lo hi = l'.map f ∧ (∀ x ∈ l', x ∈ l) ∧ l'.length ≤ l.length := by
  refine ⟨(l.drop (HT.sIx (l.map f).length 0 lo)).take (HT.sIx (l.map f).length (l.map f).length hi - HT.sIx (l.map f).length 0 lo), ?_, fun x hx => ?_, ?_⟩
  · unfold cutV
    rw [List.map_take, List.map_drop]
  · exact List.mem_of_mem_drop (List.mem_of_mem_take hx)
  · rw [List.length_take, List.length_drop]
    omega
theorem dp_vns {H : Hp} {a : Addr} {l : List Nat} (h : H a = some (.tup (l.map vn))) : Dp K H (.ref a) (dInts (l.map fun n : Nat => (n : Int))) := by
  refine dp_ti ?_
  show H a = _
  rw [h, List.map_map]
  rfl
theorem eqT {a b : Int} {A B : Prop} (h : a = b) (q : A) : if decide (V.int a = V.int b) = true then A else B := by
  rw [decide_eq_true (by rw [h])]
  exact iteT q
theorem eqF {a b : Int} {A B : Prop} (h : a ≠ b) (q : B) : if decide (V.int a = V.int b) = true then A else B := by
  rw [decide_eq_false (fun z => h (V.int.inj z))]
  exact iteF q
/-! ### _law_question -/
def spQuestion (d : Nat) : Sp := fun vs H Q _ => ∃ (f : Addr) (k n dp : Nat), vs = [.ref f, vn n, vn dp] ∧ dp < d ∧ dp ≤ 1 ∧ FeedAt H f k ∧ k + 20 * dp ≤ 60000 ∧ 1 ≤ n ∧ n ≤ 4 ∧
  ∀ H' a q, SameB f H H' → FeedAt H' f (k + 10 * (dp + 1)) → QAt H' a q → q.Ok n → q.dep ≤ dp → Q (.ref a) H'
theorem ok44 (T : Tx K mg ad fd) : ∀ d, FnOk P w K mg base CX0 (d + 2) (ad 44) (fd 44) P44 (spQuestion d)
  | 0 => by
    refine (T.f__law_question.ok (k := 1) sc44 (fun vs H Q E h => ?_) (fun cdv A outer s H vs Q E hr h => ?_))
    · obtain ⟨_, _, _, _, _, h, _⟩ := h
      exact absurd h (Nat.not_lt_zero _)
    · obtain ⟨_, _, _, _, _, h, _⟩ := h
      exact absurd h (Nat.not_lt_zero _)
  | d + 1 => by
    have nd := sc44.nd
    have G44 := ok44 T d
    have G42 := ok42 (P := P) (w := w) (base := base) T
    refine (T.f__law_question.ok (k := d + 2) sc44 (fun vs H Q E h => ?_) (fun cdv A outer s H vs Q E hr h => ?_))
    · obtain ⟨f, k, n, dp, rfl, _⟩ := h
      rfl
    · obtain ⟨f, k, n, dp, rfl, hdp, hdp1, hf, hk, hn1, hn4, q⟩ := h
      refine ⟨_, PSs.nox (pss_cons (ps_set (i := 3) nd rfl (Or.inr rfl) (pe_callTy (KW.tupO K) (by rfl) T.b_tuple (by decide +kernel) (pa_cons (pe_lc (own := [("_law_sort", 7)]) (g := (gName 7)) (by rfl) nd (pi_range1 (by rfl) T.b_range (pa_cons (pv 1) pa_nil)) (blkOk_by (N := N44) (sc := defScope (topS 44)) (by decide +kernel)) (fun _ _ _ _ _ => pg_name (i := 7) nd rfl (Or.inl rfl)) (fun _ _ _ _ _ => pts_one (pt_cmpR op_eq (pe_call G42 (hr.mono (by omega)) (by rfl) T.g__law_draw T.f__law_draw.kp T.b__law_draw .nil pass0 (pa_cons (pv 0) (pa_cons pe_int pa_nil))) pe_int (nomark _))) (fun _ _ _ _ _ => (pv 7))) pa_nil)))
  (pss_cons (ps_set (i := 3) nd rfl (Or.inr rfl) (pe_ifExp (pt_cmpR (KW.neDp K (hu_eq hr)) (pv 3) (pe_tup pa_nil) (nomark _)) (pv 3) (pe_tup (pa_cons (pe_call G42 (hr.mono (by omega)) (by rfl) T.g__law_draw T.f__law_draw.kp T.b__law_draw .nil pass0 (pa_cons (pv 0) (pa_cons (pv 1) pa_nil))) pa_nil))))
  (pss_cons (ps_set (i := 4) nd rfl (Or.inl rfl) (pe_call G42 (hr.mono (by omega)) (by rfl) T.g__law_draw T.f__law_draw.kp T.b__law_draw .nil pass0 (pa_cons (pv 0) (pa_cons pe_int pa_nil))))
  (pss_cons (ps_if (PW.pt (pw_and (pt_cmpR op_eq (pv 4) pe_int (nomark _)) (pw_and1 (pt_cmpR op_gt (pv 2) pe_int (nomark _)))))
    (pss_one (ps_ret (pe_tup (pa_cons pe_str (pa_cons (pe_call G44 (hr.mono (by omega)) (by rfl) T.g__law_question T.f__law_question.kp T.b__law_question .nil pass0 (pa_cons (pv 0) (pa_cons (pv 1) (pa_cons pe_int pa_nil)))) pa_nil)))))
    pss_nil)
  (pss_cons (ps_if (pt_cmpR op_eq (pv 4) pe_int (nomark _))
    (pss_cons (ps_setLc (i := 5) (own := [("_law_sort", 7)]) (g := (gName 7)) (by rfl) nd rfl rfl (sw_true rfl rfl rfl (by decide +kernel)) (pi_range1 (by rfl) T.b_range (pa_cons (pv 1) pa_nil)) (blkOk_by (N := N44) (sc := defScope (topS 44)) (by decide +kernel)) (fun _ _ _ _ _ => pg_name (i := 7) nd rfl (Or.inl rfl)) (fun _ _ _ _ _ => pts_one (pt_cmpR (KW.notInS K) (pv 7) (pv 3) (by with_unfolding_all rfl))) (fun _ _ _ _ _ => (pv 7)))
  (pss_one (ps_ret (pe_tup (pa_cons pe_str (pa_cons (pv 3) (pa_cons (pe_callTy (KW.tupO K) (by rfl) T.b_tuple (by decide +kernel) (pa_cons (pe_slice (KW.slL K) (pv 5) (po_some (pe_call G42 (hr.mono (by omega)) (by rfl) T.g__law_draw T.f__law_draw.kp T.b__law_draw .nil pass0 (pa_cons (pv 0) (pa_cons pe_int pa_nil)))) po_none) pa_nil)) pa_nil)))))))
    pss_nil)
  (pss_cons (ps_if (pt_cmpR op_eq (pv 4) pe_int (nomark _))
    (pss_cons (ps_set (i := 6) nd rfl (Or.inl rfl) (pe_op op_add pe_int (pe_call G42 (hr.mono (by omega)) (by rfl) T.g__law_draw T.f__law_draw.kp T.b__law_draw .nil pass0 (pa_cons (pv 0) (pa_cons pe_int pa_nil)))))
  (pss_one (ps_ret (pe_tup (pa_cons pe_str (pa_cons (pv 3) (pa_cons (pv 6) (pa_cons (pe_call G42 (hr.mono (by omega)) (by rfl) T.g__law_draw T.f__law_draw.kp T.b__law_draw .nil pass0 (pa_cons (pv 0) (pa_cons (pv 6) pa_nil))) pa_nil))))))))
    pss_nil)
  (pss_one (ps_ret (pe_tup (pa_cons pe_str (pa_cons (pv 3) (pa_cons (pe_op op_add pe_int (pe_call G42 (hr.mono (by omega)) (by rfl) T.g__law_draw T.f__law_draw.kp T.b__law_draw .nil pass0 (pa_cons (pv 0) (pa_cons pe_int pa_nil)))) pa_nil)))))))))))), ?_⟩
      refine ⟨vn n, rfl, (n : Int), rfl, rng_lo, rng_hi (by omega), fun D nD => ?_⟩
      have hDf := hf.ne nD
      refine lc_some walk_range (by simp; omega) (fun y _ => ∃ m : Nat, y = vn m ∧ m < n) (fun i H' => SameB f H H' ∧ FeedAt H' f (k + i)) (fun _ _ _ _ h => h) ⟨SameB.of (same_new nD), hf.same (same_new nD)⟩ (fun _ _ _ => trivial) (fun i x H1 H2 acc KY KN hi iv eD hy ky kn => ?_) (fun H1 ys iv eD hyl pr => ?_)
      · obtain ⟨rfl, rfl⟩ := hy
        obtain ⟨b1, hf1⟩ := iv
        have hin : i < n := by simpa using hi
        refine ⟨rfl, .ref f, rfl, f, k + i, 2, rfl, hf1, by omega, by decide, by decide, fun H3 m b3 hf3 h0 hm => ⟨rfl, _, rfl, ?_⟩⟩
        cases hc : decide (V.int m = V.int 0) with
        | true =>
          refine iteT ⟨_, rfl, ky _ _ (b3 _ _ hDf eD) (hf1.te b3) ⟨i, ?_, hin⟩ ⟨sameB_put (b1.trans b3) nD, hf3.put hDf⟩⟩
          show V.int (0 + (i : Nat)) = V.int (i : Nat)
          rw [show (0 : Int) + (i : Nat) = (i : Nat) by omega]
        | false => exact iteF (kn _ (b3 _ _ hDf eD) (hf1.te b3) ⟨b1.trans b3, hf3⟩)
      obtain ⟨b1, hf1⟩ := iv
      have hnn : ((n : Int)).toNat = n := by omega
      rw [hnn] at hf1 hyl
      obtain ⟨so, rfl, hso⟩ := vns_of pr
      rw [List.length_map] at hyl
      refine ⟨D, _, rfl, SqL.of eD, fun sa nsa => ?_⟩
      have s2 := same_new (o := .tup (so.map vn)) nsa
      have hf2 := hf1.same s2
      have b2 := sameB_new (o := .tup (so.map vn)) b1 nsa
      have esa : (upd H1 sa (.tup (so.map vn))) sa = some (.tup (so.map vn)) := upd_same
      obtain ⟨H2, eH2⟩ : ∃ H2, H2 = upd H1 sa (.tup (so.map vn)) := ⟨_, rfl⟩
      rw [← eH2] at hf2 b2 esa ⊢
      refine ⟨.ref sa, rfl, by show 0 ≤ sizeLine; decide, fun z nz => ⟨_, _, dp_vns (same_new nz _ _ esa), dp_ti (c := []) upd_same, shaped_ints _, shaped_ints [], _, rfl, ?_⟩⟩
      have s3 := same_new (o := .tup []) nz
      refine ite_cont (fun v H' => ∃ (sb : Addr) (so : List Nat), v = .ref sb ∧ H' sb = some (.tup (so.map vn)) ∧ (∀ x ∈ so, x < n) ∧ so.length ≤ 4 ∧ SameB f H H' ∧ FeedAt H' f (k + 5)) (fun _ Q k' => ?_) (fun _ Q k' => ?_) (fun v H4 hc => ?_)
      · exact ⟨_, rfl, k' _ _ ⟨sa, so, rfl, s3 _ _ esa, hso, by omega, b2.trans (SameB.of s3), (hf2.same s3).mono (by omega)⟩⟩
      · refine ⟨.ref f, rfl, vn n, rfl, f, k + n, (n : Int), rfl, hf2.same s3, by omega, by omega, by omega, fun H3 m b3 hf3 h0 hm => ⟨by show 1 ≤ sizeLine; decide, fun sb nsb => ?_⟩⟩
        obtain ⟨m, rfl⟩ := Int.eq_ofNat_of_zero_le h0
        refine k' _ _ ⟨sb, [m], rfl, upd_same, fun x hx => ?_, by show 1 ≤ 4; decide, sameB_new ((b2.trans (SameB.of s3)).trans b3) nsb, (hf3.same (same_new nsb)).mono (by omega)⟩
        rw [List.mem_singleton.mp hx]
        omega
      clear hf2 b2 esa eH2 s3 s2 hso hyl pr
      obtain ⟨sb, so, rfl, esb, hso, hsl, b4, hf4⟩ := hc
      refine ⟨.ref f, rfl, f, k + 5, 4, rfl, hf4, by omega, by decide, by decide, fun H5 wy b5 hf5 hw0 hw4 => ?_⟩
      have b05 := b4.trans b5
      have t5 := hf4.te b5
      have esb5 := t5.tup esb
      refine ⟨.int wy, rfl, rfl, _, rfl, ?_⟩
      by_cases h3 : wy = 3
      · refine eqT h3 ⟨_, rfl, dp, 0, rfl, rfl, _, rfl, ?_⟩
        by_cases hd0 : 0 < dp
        · rw [decide_eq_true (show (0 : Int) < (dp : Int) by omega)]
          refine iteT ⟨.ref f, rfl, vn n, rfl, f, k + 6, n, 0, rfl, by omega, by omega, hf5, by omega, hn1, hn4, fun H6 qa qq b6 hf6 hqa hqo hqd => ⟨by show 2 ≤ sizeLine; decide, fun qb nqb => ?_⟩⟩
          refine q _ qb (.not qq) (sameB_new (b05.trans b6) nqb) ((hf6.same (same_new nqb)).mono (by omega)) ⟨qa, upd_same, hqa.te (tsS (same_new nqb))⟩ hqo ?_
          show qq.dep + 1 ≤ dp
          omega
        · rw [decide_eq_false (show ¬ (0 : Int) < (dp : Int) by omega)]
          refine iteF ?_
          refine ⟨_, rfl, rfl, _, rfl, eqF (by omega) ⟨_, rfl, rfl, _, rfl, eqF (by omega) ?_⟩⟩
          refine ⟨.ref sb, rfl, .ref f, rfl, f, k + 6, 3, rfl, hf5, by omega, by decide, by decide, fun H6 m b6 hf6 h0 hm => ⟨1, m, rfl, rfl, by show 3 ≤ sizeLine; decide, fun qa nqa => ?_⟩⟩
          obtain ⟨m, rfl⟩ := Int.eq_ofNat_of_zero_le h0
          refine q _ qa (.least so (m + 1)) (sameB_new (b05.trans b6) nqa) ((hf6.same (same_new nqa)).mono (by omega)) ⟨sb, ?_, same_new nqa _ _ ((hf5.te b6).tup esb5)⟩ ⟨hso, by omega, by omega, by omega⟩ (Nat.zero_le _)
          rw [upd_same]
          show some (HO.tup [V.str (Str.ofString "least"), V.ref sb, V.int (1 + (m : Nat))]) = some (HO.tup [V.str (Str.ofString "least"), V.ref sb, V.int ((m + 1 : Nat) : Int)])
          rw [show (1 : Int) + (m : Nat) = ((m + 1 : Nat) : Int) by omega]
      · refine eqF h3 ?_
        by_cases h1 : wy = 1
        · refine ⟨_, rfl, rfl, _, rfl, eqT h1 ?_⟩
          refine ⟨vn n, rfl, (n : Int), rfl, rng_lo, rng_hi (by omega), fun D2 nD2 => ?_⟩
          have hDf2 := hf5.ne nD2
          refine lc_some walk_range (by simp; omega) (fun y _ => ∃ m : Nat, y = vn m ∧ m < n) (fun i H' => Same H5 H') (fun _ _ _ _ h => h) (same_new nD2) (fun _ _ _ => trivial) (fun i x H6 H7 acc KY KN hi iv eD hy ky kn => ?_) (fun H6 ys iv eD2 hyl pr => ?_)
          · obtain ⟨rfl, rfl⟩ := hy
            have hin : i < n := by simpa using hi
            refine ⟨rfl, _, rfl, .ref sb, rfl, sb, _, rfl, .inr (SqT.of (iv _ _ esb5)), rfl, flat_vn _, _, rfl, ?_⟩
            cases hc : (if true = true then !inV (V.int (0 + (i : Nat))) (so.map vn) else inV (V.int (0 + (i : Nat))) (so.map vn)) with
            | true =>
              refine iteT ⟨_, rfl, ky _ _ eD (Ts.refl _) ⟨i, ?_, hin⟩ (same_put iv nD2)⟩
              show V.int (0 + (i : Nat)) = V.int (i : Nat)
              rw [show (0 : Int) + (i : Nat) = (i : Nat) by omega]
            | false => exact iteF (kn _ eD (Ts.refl _) iv)
          obtain ⟨ot, rfl, hot⟩ := vns_of pr
          rw [List.length_map] at hyl
          have hf6 := hf5.same iv
          refine ⟨.ref sb, rfl, .ref D2, rfl, .ref f, rfl, f, k + 6, 2, rfl, hf6, by omega, by decide, by decide, fun H7 m b7 hf7 h0 hm => ⟨m, rfl, D2, _, rfl, SqL.of (b7 _ _ hDf2 eD2), fun L2' nL2 => ⟨L2', _, rfl, SqL.of upd_same, fun ob nob => ⟨by show 3 ≤ sizeLine; decide, fun qa nqa => ?_⟩⟩⟩⟩
          obtain ⟨ot', e1, e2, e3⟩ := cutV_map vn ot (some m) none
          rw [e1] at nob nqa ⊢
          have u1 := same_new (o := .lst (ot'.map vn)) nL2
          have u2 := same_new (o := .tup (ot'.map vn)) nob
          have u3 := same_new (o := .tup [.str (Str.ofString "more"), .ref sb, .ref ob]) nqa
          have u13 := (u1.trans u2).trans u3
          refine q _ qa (.more so ot') (((b05.trans (SameB.of iv)).trans b7).trans (SameB.of u13)) ((hf7.same u13).mono (by omega)) ⟨sb, ob, upd_same, u13 _ _ ((hf6.te b7).tup (iv _ _ esb5)), u3 _ _ upd_same⟩ ⟨hso, fun x hx => hot x (e2 x hx), by omega, by omega⟩ (Nat.zero_le _)
        · refine ⟨_, rfl, rfl, _, rfl, eqF h1 ?_⟩
          by_cases h2 : wy = 2
          · refine ⟨_, rfl, rfl, _, rfl, eqT h2 ?_⟩
            refine ⟨.ref f, rfl, f, k + 6, 2, rfl, hf5, by omega, by decide, by decide, fun H6 m b6 hf6 h0 hm => ⟨2, m, rfl, rfl, ?_⟩⟩
            obtain ⟨m, rfl⟩ := Int.eq_ofNat_of_zero_le h0
            refine ⟨.ref sb, rfl, _, rfl, .ref f, rfl, _, rfl, f, k + 7, 2 + (m : Int), rfl, hf6, by omega, by omega, by omega, fun H7 r' b7 hf7 hr0 hr => ⟨by show 4 ≤ sizeLine; decide, fun qa nqa => ?_⟩⟩
            obtain ⟨r', rfl⟩ := Int.eq_ofNat_of_zero_le hr0
            refine q _ qa (.rest so (2 + m) r') (sameB_new ((b05.trans b6).trans b7) nqa) ((hf7.same (same_new nqa)).mono (by omega)) ⟨sb, ?_, same_new nqa _ _ ((hf6.te b7).tup ((hf5.te b6).tup esb5))⟩ ⟨hso, by omega, by omega, by omega, by omega⟩ (Nat.zero_le _)
            rw [upd_same]
            show some (HO.tup [V.str (Str.ofString "rest"), V.ref sb, V.int (2 + (m : Nat)), V.int (r' : Nat)]) = some (HO.tup [V.str (Str.ofString "rest"), V.ref sb, V.int ((2 + m : Nat) : Int), V.int (r' : Nat)])
            rw [show (2 : Int) + (m : Nat) = ((2 + m : Nat) : Int) by omega]
          · refine ⟨_, rfl, rfl, _, rfl, eqF h2 ?_⟩
            refine ⟨.ref sb, rfl, .ref f, rfl, f, k + 6, 3, rfl, hf5, by omega, by decide, by decide, fun H6 m b6 hf6 h0 hm => ⟨1, m, rfl, rfl, by show 3 ≤ sizeLine; decide, fun qa nqa => ?_⟩⟩
            obtain ⟨m, rfl⟩ := Int.eq_ofNat_of_zero_le h0
            refine q _ qa (.least so (m + 1)) (sameB_new (b05.trans b6) nqa) ((hf6.same (same_new nqa)).mono (by omega)) ⟨sb, ?_, same_new nqa _ _ ((hf5.te b6).tup esb5)⟩ ⟨hso, by omega, by omega, by omega⟩ (Nat.zero_le _)
            rw [upd_same]
            show some (HO.tup [V.str (Str.ofString "least"), V.ref sb, V.int (1 + (m : Nat))]) = some (HO.tup [V.str (Str.ofString "least"), V.ref sb, V.int ((m + 1 : Nat) : Int)])
            rw [show (1 : Int) + (m : Nat) = ((m + 1 : Nat) : Int) by omega]
end
end KH

namespace KH
open PySem PySem.Spec PyProof.Rows L2 KM
section
variable {P : Program} {w : World} {K : PySem.W.Frag} {mg : Str → Option Value} {base : Heap} {ad : Nat → Addr} {fd : Nat → FuncData}
/-! ### _law_made -/
/-- a list of meetings -/
def MsAt (H : Hp) (M : Addr) (n b : Nat) : Prop := ∃ ms meets, H M = some (.lst (ms.map V.ref)) ∧ Paired (MeetAt H) ms meets ∧ (∀ m ∈ meets, Mt.Ok m n) ∧ meets.length ≤ b
theorem MsAt.same {H H' : Hp} {M : Addr} {n b : Nat} (s : Same H H') (h : MsAt H M n b) : MsAt H' M n b := by
  obtain ⟨ms, meets, h1, h2, h3, h4⟩ := h
  exact ⟨ms, meets, s _ _ h1, paired_imp (fun _ _ q => s _ _ q) h2, h3, h4⟩
theorem MsAt.mono {H : Hp} {M : Addr} {n b b' : Nat} (hb : b ≤ b') (h : MsAt H M n b) : MsAt H M n b' := by
  obtain ⟨ms, meets, h1, h2, h3, h4⟩ := h
  exact ⟨ms, meets, h1, h2, h3, by omega⟩
theorem MsAt.sq {H : Hp} {M : Addr} {n b : Nat} (h : MsAt H M n b) : ∃ xs, H M = some (.lst xs) ∧ xs.length ≤ b ∧
    ∀ (mt : Addr) (m : Mt), MeetAt H mt m → m.Ok n → MsAt (upd H M (.lst (xs ++ [V.ref mt]))) M n (b + 1) := by
  obtain ⟨ms, meets, h1, h2, h3, h4⟩ := h
  have hl := Paired.length h2
  refine ⟨_, h1, by rw [List.length_map]; omega, fun mt m hm ho => ?_⟩
  have t := Ts.put (o := .lst (ms.map V.ref ++ [V.ref mt])) h1 rfl
  refine ⟨ms ++ [mt], meets ++ [m], by rw [upd_same, List.map_append]; rfl, paired_snoc (paired_imp (fun _ _ q => t.tup q) h2) (t.tup hm), fun x hx => ?_, by rw [List.length_append, List.length_singleton]; omega⟩
  rcases List.mem_append.mp hx with q | q
  · exact h3 x q
  · rw [List.mem_singleton.mp q]; exact ho
theorem meetV {H : Hp} {t : Addr} {a b c d : Int} (e : H t = some (.tup [.int a, .int b, .int c, .int d])) {m : Mt} (ha : a = m.a) (hb : b = m.b) (hc : c = m.c) (hd : d = m.d) : MeetAt H t m := by
  show H t = _
  rw [e, ha, hb, hc, hd]
  rfl
theorem MsAt.app {H : Hp} {M : Addr} {n b : Nat} (h : MsAt H M n b) {xs : List V} (e : H M = some (.lst xs)) {mt : Addr} {o : HO} (nmt : H mt = none) {m : Mt} (eo : MeetAt (upd H mt o) mt m) (ho : m.Ok n) : MsAt (upd (upd H mt o) M (.lst (xs ++ [V.ref mt]))) M n (b + 1) := by
  obtain ⟨xs', e', _, f⟩ := (h.same (same_new (o := o) nmt)).sq
  have e2 := same_new (o := o) nmt _ _ e
  rw [e2] at e'
  have : xs = xs' := by
    have := Option.some.inj e'
    injection this
  rw [this]
  exact f mt m eo ho
theorem made4 : ∀ m ∈ ([⟨0, 1, 2, 3⟩, ⟨0, 3, 0, 2⟩, ⟨1, 2, 1, 3⟩, ⟨2, 3, 3, 3⟩] : List Mt), Mt.Ok m 4 := by
  intro m hm
  simp only [List.mem_cons, List.not_mem_nil, or_false] at hm
  rcases hm with rfl | rfl | rfl | rfl <;> exact ⟨by decide, by decide, by decide, by decide⟩
theorem mplus (m : Nat) (b : Bool) : ∃ d : Nat, d ≤ m + 1 ∧ (m : Int) + (if b = true then 1 else 0) = (d : Int) := by
  cases b with
  | true => exact ⟨m + 1, Nat.le_refl _, by simp⟩
  | false => exact ⟨m, by omega, by simp⟩
/-- the rule that is laid last -/
theorem rule_new {H : Hp} {ra sa ma ya : Addr} {n b : Nat} {M : Addr} {sts : List Nat} {bls : List Bool} (hM : MsAt H M n b) (xs : List V) (eM : H M = some (.lst xs)) : ∃ ms meets, xs = ms.map V.ref ∧ (∀ m ∈ meets, Mt.Ok m n) ∧ meets.length ≤ b ∧ Paired (MeetAt H) ms meets := by
  obtain ⟨ms, meets, h1, h2, h3, h4⟩ := hM
  rw [eM] at h1
  have : xs = ms.map V.ref := by
    have := Option.some.inj h1
    injection this
  exact ⟨ms, meets, this, h3, h4, h2⟩
def spMade : Sp := fun vs H Q _ => ∃ (n : Nat) (qa : Addr) (q : Qu), vs = [vn n, .ref qa] ∧ QAt H qa q ∧ q.dep = 0 ∧ q.Ok n ∧ 1 ≤ n ∧ n ≤ 4 ∧ ∀ H' a r, Same H H' → IsRule H' a r → r.Ok → r.starts.length = n → Q (.ref a) H'
theorem ok46 (T : Tx K mg ad fd) : FnOk P w K mg base CX0 1 (ad 46) (fd 46) P46 spMade := by
  have nd := sc46.nd
  refine T.f__law_made.ok sc46 (fun vs H Q E h => ?_) (fun cdv A outer s H vs Q E hr h => ?_)
  · obtain ⟨n, qa, q, rfl, _⟩ := h
    rfl
  · obtain ⟨n, qa, qq, rfl, hq, hqd, hqo, hn1, hn4, q⟩ := h
    refine ⟨_, PSs.nox (pss_cons (ps_set (i := 2) nd rfl (Or.inr rfl) (pe_ix (KW.ixT K) (pv 1) pe_int (fun _ _ => rfl)))
  (pss_cons (ps_set (i := 3) nd rfl (Or.inl rfl) (pe_lst pa_nil))
  (pss_cons (ps_if (pt_cmpR op_eq (pe_ix (KW.ixT K) (pv 1) pe_int (fun _ _ => rfl)) pe_str (nomark _))
    (pss_cons (ps_set (i := 4) nd rfl (Or.inr rfl) (pe_ix (KW.ixT K) (pv 1) pe_int (fun _ _ => rfl)))
  (pss_cons (ps_setLc (i := 5) (own := [("_law_sort", 12)]) (g := (gName 12)) (tt := tYes) (by rfl) nd rfl rfl (sw_true rfl rfl rfl (by decide +kernel)) (pi_range1 (by rfl) T.b_range (pa_cons (pv 0) pa_nil)) (blkOk_by (N := N46) (sc := defScope (topS 46)) (by decide +kernel)) (fun _ _ _ _ _ => pg_name (i := 12) nd rfl (Or.inl rfl)) (fun _ _ _ _ _ => pts_nil) (fun _ _ _ _ _ => (pe_ifExp (pt_cmpR (KW.inS K) (pv 12) (pv 2) (by with_unfolding_all rfl)) pe_int (pe_op op_add pe_int (pe_op op_mul pe_int (pe_callTy call_int1 (by rfl) T.b_int (by decide +kernel) (pa_cons (pe_cmpR (KW.notInS K) (pv 12) (pv 4) (by with_unfolding_all rfl)) pa_nil)))))))
  (pss_cons (ps_set (i := 3) nd rfl (Or.inl rfl) (pe_tup (pa_cons (pe_tup (pa_cons pe_int (pa_cons pe_int (pa_cons pe_int (pa_cons pe_int pa_nil))))) (pa_cons (pe_tup (pa_cons pe_int (pa_cons pe_int (pa_cons pe_int (pa_cons pe_int pa_nil))))) (pa_cons (pe_tup (pa_cons pe_int (pa_cons pe_int (pa_cons pe_int (pa_cons pe_int pa_nil))))) (pa_cons (pe_tup (pa_cons pe_int (pa_cons pe_int (pa_cons pe_int (pa_cons pe_int pa_nil))))) pa_nil))))))
  (pss_one (ps_ret (pe_tup (pa_cons pe_int (pa_cons (pe_callTy (KW.tupO K) (by rfl) T.b_tuple (by decide +kernel) (pa_cons (pv 5) pa_nil)) (pa_cons (pv 3) (pa_cons (pe_tup (pa_cons pe_bl (pa_cons pe_bl (pa_cons pe_bl (pa_cons pe_bl pa_nil))))) pa_nil))))))))))
    pss_nil)
  (pss_cons (ps_set (i := 6) nd rfl (Or.inl rfl) (pe_callTy (KW.tupO K) (by rfl) T.b_tuple (by decide +kernel) (pa_cons (pe_lc (own := [("_law_sort", 12)]) (g := (gName 12)) (tt := tYes) (by rfl) nd (pi_range1 (by rfl) T.b_range (pa_cons (pv 0) pa_nil)) (blkOk_by (N := N46) (sc := defScope (topS 46)) (by decide +kernel)) (fun _ _ _ _ _ => pg_name (i := 12) nd rfl (Or.inl rfl)) (fun _ _ _ _ _ => pts_nil) (fun _ _ _ _ _ => (pe_callTy call_int1 (by rfl) T.b_int (by decide +kernel) (pa_cons (pe_cmpR (KW.inS K) (pv 12) (pv 2) (by with_unfolding_all rfl)) pa_nil)))) pa_nil)))
  (pss_cons (ps_if (pt_cmpR op_eq (pe_ix (KW.ixT K) (pv 1) pe_int (fun _ _ => rfl)) pe_str (nomark _))
    (pss_cons (ps_set (i := 7) nd rfl (Or.inr rfl) (pe_ix (KW.ixT K) (pv 1) pe_int (fun _ _ => rfl)))
  (pss_cons (ps_for PassesOwn.never rfl (pi_range1 (by rfl) T.b_range (pa_cons (pe_op op_add (pv 7) pe_int) pa_nil)) (pg_name (i := 8) nd rfl (Or.inl rfl))
    (pss_one (ps_for PassesOwn.never rfl (pi_range2 (by rfl) T.b_range (pa_cons (pv 8) (pa_cons (pe_op op_add (pv 7) pe_int) pa_nil))) (pg_name (i := 9) nd rfl (Or.inl rfl))
    (pss_one (ps_if (PW.pt (pw_and (pt_cmpR op_gt (pv 8) pe_int (nomark _)) (pw_and1 (pt_cmpR op_lt (pe_op op_add (pv 8) (pv 9)) (pv 7) (nomark _)))))
    (pss_one (ps_expr (pe_bm PySem.F.plainAttrs_list PySem.F.slot_list_append PySem.F.type_list_append mt_append (pv 3) (pa_cons (pe_tup (pa_cons (pv 8) (pa_cons (pv 9) (pa_cons pe_int (pa_cons (pe_op op_add (pv 8) (pv 9)) pa_nil))))) pa_nil))))
    (pss_one (ps_if (PW.pt (pw_or (PW.pt (pw_and (pt_cmpR op_gt (pv 8) pe_int (nomark _)) (pw_and1 (pt_cmpR op_lt (pv 9) (pv 7) (nomark _))))) (pw_or1 (PW.pt (pw_and (pt_cmpR op_lt (pv 8) (pv 7) (nomark _)) (pw_and1 (pt_cmpR op_eq (pv 9) (pv 7) (nomark _))))))))
    (pss_one (ps_expr (pe_bm PySem.F.plainAttrs_list PySem.F.slot_list_append PySem.F.type_list_append mt_append (pv 3) (pa_cons (pe_tup (pa_cons (pv 8) (pa_cons (pv 9) (pa_cons (pv 7) (pa_cons (pv 7) pa_nil))))) pa_nil))))
    pss_nil)))))))
  (pss_one (ps_ret (pe_tup (pa_cons (pe_op op_add (pv 7) pe_int) (pa_cons (pv 6) (pa_cons (pe_callTy (KW.tupO K) (by rfl) T.b_tuple (by decide +kernel) (pa_cons (pv 3) pa_nil)) (pa_cons (pe_callTy (KW.tupO K) (by rfl) T.b_tuple (by decide +kernel) (pa_cons (pe_lc (own := [("_law_room", 13)]) (g := (gName 13)) (tt := tYes) (by rfl) nd (pi_range1 (by rfl) T.b_range (pa_cons (pe_op op_add (pv 7) pe_int) pa_nil)) (blkOk_by (N := N46) (sc := defScope (topS 46)) (by decide +kernel)) (fun _ _ _ _ _ => pg_name (i := 13) nd rfl (Or.inl rfl)) (fun _ _ _ _ _ => pts_nil) (fun _ _ _ _ _ => (pe_cmpR op_eq (pv 13) (pv 7) (nomark _)))) pa_nil)) pa_nil)))))))))
    pss_nil)
  (pss_cons (ps_asg (pe_slice (KW.slA K) (pv 1) (po_some pe_int) po_none) (pg_tup rfl (pgs_cons (pg_name (i := 10) nd rfl (Or.inr rfl)) (pgs_cons (pg_name (i := 11) nd rfl (Or.inr rfl)) pgs_nil))))
  (pss_cons (ps_for PassesOwn.never rfl (pi_range1 (by rfl) T.b_range (pa_cons (pv 10) pa_nil)) (pg_name (i := 8) nd rfl (Or.inl rfl))
    (pss_cons (ps_for PassesOwn.never rfl (pi_range2 (by rfl) T.b_range (pa_cons (pv 8) (pa_cons (pv 10) pa_nil))) (pg_name (i := 9) nd rfl (Or.inl rfl))
    (pss_one (ps_expr (pe_bm PySem.F.plainAttrs_list PySem.F.slot_list_append PySem.F.type_list_append mt_append (pv 3) (pa_cons (pe_tup (pa_cons (pv 8) (pa_cons (pv 9) (pa_cons (pe_op op_mod (pe_op op_add (pv 8) (pv 9)) (pv 10)) (pa_cons (pe_op op_add (pv 10) (pe_callTy call_int1 (by rfl) T.b_int (by decide +kernel) (pa_cons (pe_cmpR op_eq (pe_op op_mod (pe_op op_add (pv 8) (pv 9)) (pv 10)) (pv 11) (nomark _)) pa_nil))) pa_nil))))) pa_nil)))))
  (pss_one (ps_expr (pe_bm PySem.F.plainAttrs_list PySem.F.slot_list_append PySem.F.type_list_append mt_append (pv 3) (pa_cons (pe_tup (pa_cons (pv 8) (pa_cons (pe_op op_add (pv 10) (pe_callTy call_int1 (by rfl) T.b_int (by decide +kernel) (pa_cons (pe_cmpR op_ne (pv 8) (pv 11) (nomark _)) pa_nil))) (pa_cons (pv 8) (pa_cons (pe_op op_add (pv 10) (pe_callTy call_int1 (by rfl) T.b_int (by decide +kernel) (pa_cons (pe_cmpR op_eq (pv 8) (pv 11) (nomark _)) pa_nil))) pa_nil))))) pa_nil))))))
  (pss_one (ps_ret (pe_tup (pa_cons (pe_op op_add (pv 10) pe_int) (pa_cons (pv 6) (pa_cons (pe_callTy (KW.tupO K) (by rfl) T.b_tuple (by decide +kernel) (pa_cons (pv 3) pa_nil)) (pa_cons (pe_callTy (KW.tupO K) (by rfl) T.b_tuple (by decide +kernel) (pa_cons (pe_lc (own := [("_law_room", 13)]) (g := (gName 13)) (tt := tYes) (by rfl) nd (pi_range1 (by rfl) T.b_range (pa_cons (pe_op op_add (pv 10) pe_int) pa_nil)) (blkOk_by (N := N46) (sc := defScope (topS 46)) (by decide +kernel)) (fun _ _ _ _ _ => pg_name (i := 13) nd rfl (Or.inl rfl)) (fun _ _ _ _ _ => pts_nil) (fun _ _ _ _ _ => (pe_cmpR (KW.inS K) (pv 13) (pe_tup (pa_cons (pv 11) (pa_cons (pe_op op_add (pv 10) pe_int) pa_nil))) (by with_unfolding_all rfl)))) pa_nil)) pa_nil)))))))))))))), ?_⟩
    cases qq with
    | not qi => exact absurd hqd (Nat.succ_ne_zero _)
    | more so ot =>
      obtain ⟨sb, ob, h1, h2, h3⟩ := hq
      refine ⟨.ref qa, rfl, qa, _, 1, _, rfl, rfl, SqT.of h1, at_nat (n := 1) rfl, ?_⟩
      refine ⟨Nat.zero_le _, fun M nM => ?_⟩
      have s1 := same_new (o := .lst []) nM
      refine ⟨.ref qa, rfl, qa, _, 0, _, rfl, rfl, SqT.of (s1 _ _ h1), at_nat (n := 0) rfl, rfl, _, rfl, strT ?_⟩
      refine ⟨.ref qa, rfl, qa, _, 2, _, rfl, rfl, SqT.of (s1 _ _ h1), at_nat (n := 2) rfl, ?_⟩
      refine ⟨vn n, rfl, (n : Int), rfl, rng_lo, rng_hi (by omega), fun D nD => ?_⟩
      refine lc_map walk_range (List.range n) (by simp) (by simp; omega) (fun _ y _ => ∃ m : Nat, y = vn m ∧ m < 4) nD (fun _ _ _ _ _ h => h) (fun _ _ => trivial) (fun i m y H2 H3 KY hi s2 hy ky => ?_) (fun H2 ys s2 eD pr => ?_)
      · obtain ⟨rfl, rfl⟩ := hy
        refine ⟨rfl, _, rfl, .ref sb, rfl, sb, _, rfl, .inr (SqT.of (s2 _ _ (s1 _ _ h2))), rfl, flat_vn _, _, rfl, ?_⟩
        cases (if false = true then !inV (V.int (0 + (i : Nat))) (so.map vn) else inV (V.int (0 + (i : Nat))) (so.map vn)) with
        | true => exact iteT (ky _ _ (Same.refl _) ⟨0, rfl, by decide⟩)
        | false =>
          refine iteF ⟨_, rfl, .ref ob, rfl, ob, _, rfl, .inr (SqT.of (s2 _ _ (s1 _ _ h3))), rfl, flat_vn _, .inr ⟨_, rfl, 2, _, rfl, rfl, .inl ⟨by decide, by decide⟩, 1, _, rfl, rfl, ky _ _ (Same.refl _) ?_⟩⟩
          cases (if true = true then !inV (V.int (0 + (i : Nat))) (ot.map vn) else inV (V.int (0 + (i : Nat))) (ot.map vn)) with
          | true => exact ⟨3, rfl, by decide⟩
          | false => exact ⟨1, rfl, by decide⟩
      · obtain ⟨sts, rfl, hsl, hst⟩ := nats_of pr
        have hsl' : sts.length = n := by rw [hsl, List.length_range]
        refine ⟨by show 4 ≤ sizeLine; decide, fun m1 n1 => ⟨by show 4 ≤ sizeLine; decide, fun m2 n2 => ⟨by show 4 ≤ sizeLine; decide, fun m3 n3 => ⟨by show 4 ≤ sizeLine; decide, fun m4 n4 => ⟨by show 4 ≤ sizeLine; decide, fun mt nmt => ?_⟩⟩⟩⟩⟩
        have u1 := same_new (o := .tup [.int 0, .int 1, .int 2, .int 3]) n1
        have u2 := same_new (o := .tup [.int 0, .int 3, .int 0, .int 2]) n2
        have u3 := same_new (o := .tup [.int 1, .int 2, .int 1, .int 3]) n3
        have u4 := same_new (o := .tup [.int 2, .int 3, .int 3, .int 3]) n4
        have u5 := same_new (o := .tup [.ref m1, .ref m2, .ref m3, .ref m4]) nmt
        have u15 := (((u1.trans u2).trans u3).trans u4).trans u5
        refine ⟨.ref D, rfl, D, _, rfl, SqL.of (u15 _ _ eD), fun sa nsa => ⟨.ref mt, rfl, by show 4 ≤ sizeLine; decide, fun ya nya => ⟨by show 4 ≤ sizeLine; decide, fun ra nra => ?_⟩⟩⟩
        have v1 := same_new (o := .tup (sts.map vn)) nsa
        have v2 := same_new (o := .tup [.bl true, .bl false, .bl true, .bl false]) nya
        have v3 := same_new (o := .tup [.int 4, .ref sa, .ref mt, .ref ya]) nra
        have v23 := v2.trans v3
        have v13 := v1.trans v23
        refine q _ ra ⟨4, sts, [⟨0, 1, 2, 3⟩, ⟨0, 3, 0, 2⟩, ⟨1, 2, 1, 3⟩, ⟨2, 3, 3, 3⟩], [true, false, true, false]⟩ ((((s1.trans s2).trans u15).trans v13)) ⟨sa, mt, ya, [m1, m2, m3, m4], upd_same, v23 _ _ upd_same, v13 _ _ upd_same, ?_, v3 _ _ upd_same⟩ ⟨by show 1 ≤ 4; decide, by show 4 ≤ 5; decide, by show 1 ≤ sts.length; omega, by show sts.length ≤ 4; omega, hst, made4, by show 4 ≤ 100; decide, rfl⟩ hsl'
        · exact .cons (v13 _ _ ((((u2.trans u3).trans u4).trans u5) _ _ upd_same)) (.cons (v13 _ _ (((u3.trans u4).trans u5) _ _ upd_same)) (.cons (v13 _ _ ((u4.trans u5) _ _ upd_same)) (.cons (v13 _ _ (u5 _ _ upd_same)) .nil)))
    | least so k =>
      obtain ⟨sb, h1, h2⟩ := hq
      obtain ⟨o1, o2, o3, o4⟩ := hqo
      refine ⟨.ref qa, rfl, qa, _, 1, _, rfl, rfl, SqT.of h1, at_nat (n := 1) rfl, ?_⟩
      refine ⟨Nat.zero_le _, fun M nM => ?_⟩
      have s1 := same_new (o := .lst []) nM
      refine ⟨.ref qa, rfl, qa, _, 0, _, rfl, rfl, SqT.of (s1 _ _ h1), at_nat (n := 0) rfl, rfl, _, rfl, strF (by decide +kernel) ?_⟩
      refine ⟨vn n, rfl, (n : Int), rfl, rng_lo, rng_hi (by omega), fun D nD => ?_⟩
      have hDM : D ≠ M := fun z => by rw [z, upd_same] at nD; cases nD
      refine lc_map walk_range (List.range n) (by simp) (by simp; omega) (fun _ y _ => ∃ m : Nat, y = vn m ∧ m < 2) nD (fun _ _ _ _ _ h => h) (fun _ _ => trivial) (fun i m y H2 H3 KY hi s2 hy ky => ?_) (fun H2 ys s2 eD pr => ?_)
      · obtain ⟨rfl, rfl⟩ := hy
        refine ⟨rfl, _, rfl, .ref sb, rfl, sb, _, rfl, .inr (SqT.of (s2 _ _ (s1 _ _ h2))), rfl, flat_vn _, .inr ⟨_, rfl, ky _ _ (Same.refl _) ?_⟩⟩
        cases (if false = true then !inV (V.int (0 + (i : Nat))) (so.map vn) else inV (V.int (0 + (i : Nat))) (so.map vn)) with
        | true => exact ⟨1, rfl, by decide⟩
        | false => exact ⟨0, rfl, by decide⟩
      · obtain ⟨sts, rfl, hsl, hst⟩ := nats_of pr
        have hsl' : sts.length = n := by rw [hsl, List.length_range]
        refine ⟨D, _, rfl, SqL.of eD, fun sa nsa => ?_⟩
        have v1 := same_new (o := .tup (sts.map vn)) nsa
        have s3 := s2.trans v1
        have esa : (upd H2 sa (.tup (sts.map vn))) sa = some (.tup (sts.map vn)) := upd_same
        obtain ⟨H3, eH3⟩ : ∃ H3, H3 = upd H2 sa (.tup (sts.map vn)) := ⟨_, rfl⟩
        rw [← eH3] at s3 esa ⊢
        have s13 := s1.trans s3
        refine ⟨.ref qa, rfl, qa, _, 0, _, rfl, rfl, SqT.of (s13 _ _ h1), at_nat (n := 0) rfl, rfl, _, rfl, strT ?_⟩
        refine ⟨.ref qa, rfl, qa, _, 2, _, rfl, rfl, SqT.of (s13 _ _ h1), at_nat (n := 2) rfl, ?_⟩
        have em3 : MsAt H3 M (k + 1) 0 := ⟨[], [], s3 _ _ upd_same, .nil, (fun m hm => by cases hm), Nat.le_refl _⟩
        have ek1 : (k : Int) + 1 = ((k + 1 : Nat) : Int) := by omega
        refine ⟨_, rfl, (k : Int), 1, rfl, rfl, (k : Int) + 1, rfl, by omega, by omega, ?_⟩
        have ekn : ((k : Int) + 1).toNat = k + 1 := by omega
        refine for_it walk_range (fun i σ H4 => ∃ x8 x9 x12 x13, σ = [some (vn n), some (.ref qa), some (.ref sb), some (.ref M), none, none, some (.ref sa), some (vn k), x8, x9, none, none, x12, x13] ∧ Same H H4 ∧ H4 sa = some (.tup (sts.map vn)) ∧ MsAt H4 M (k + 1) (4 * i))
          ⟨none, none, _, _, rfl, (same_new nM).trans s3, esa, em3⟩ (fun i σ H4 _ _ => trivial) (fun i y σ H4 H5 hi hp hy => ?_) (fun σ H4 hp => ?_)
        · obtain ⟨x8, x9, x12, x13, rfl, sm, esa2, hms⟩ := hp
          obtain ⟨rfl, rfl⟩ := hy
          have hik : i < k + 1 := by omega
          show gName 8 (.int (0 + (i : Nat))) _ _ _
          rw [show (0 : Int) + (i : Nat) = (i : Nat) by omega]
          refine ⟨vn i, rfl, _, rfl, (k : Int), 1, rfl, rfl, (i : Int), (k : Int) + 1, rfl, ⟨by omega, by omega, by omega, by omega⟩, ?_⟩
          refine for_it walk_range (fun j σ H6 => ∃ x9 x12 x13, σ = [some (vn n), some (.ref qa), some (.ref sb), some (.ref M), none, none, some (.ref sa), some (vn k), some (vn i), x9, none, none, x12, x13] ∧ Same H H6 ∧ H6 sa = some (.tup (sts.map vn)) ∧ MsAt H6 M (k + 1) (4 * i + j))
            ⟨_, _, _, rfl, sm, esa2, hms⟩ (fun j σ H6 _ _ => trivial) (fun j y σ H6 H7 hj hp hy => ?_) (fun σ H6 hp => ?_)
          · obtain ⟨x9, x12, x13, rfl, sm, esa2, hms⟩ := hp
            obtain ⟨rfl, rfl⟩ := hy
            have hjk : i + j < k + 1 := by omega
            show gName 9 (.int ((i : Int) + (j : Nat))) _ _ _
            rw [show (i : Int) + (j : Nat) = ((i + j : Nat) : Int) by omega]
            obtain ⟨xs, eM, hxl, _⟩ := hms.sq
            have second : ∀ {Kx : Bool → Hp → Prop}, Kx = Kx := rfl
            refine ⟨vn i, rfl, (i : Int), 0, rfl, rfl, _, rfl, ?_⟩
            by_cases c1 : (0 : Int) < (i : Int)
            · rw [decide_eq_true c1]
              refine iteT ⟨vn i, rfl, vn (i + j), rfl, (i : Int), ((i + j : Nat) : Int), rfl, rfl, vn k, rfl, _, (k : Int), rfl, rfl, _, rfl, ?_⟩
              by_cases c2 : (i : Int) + ((i + j : Nat) : Int) < (k : Int)
              · rw [decide_eq_true c2]
                exact iteT ⟨.ref M, rfl, .inl ⟨rfl, _, SqL.of eM⟩, vn i, rfl, vn (i + j), rfl, vn i, rfl, vn (i + j), rfl, _, _, rfl, rfl, by show 4 ≤ sizeLine; decide, fun mt nmt => ⟨M, _, _, rfl, rfl, same_new nmt _ _ eM, small (by omega), _, _, _, rfl, same_put (sm.trans (same_new nmt)) nM, (Ts.put (same_new nmt _ _ eM) rfl).tup (same_new nmt _ _ esa2), (hms.app eM nmt (m := ⟨i, i + j, 0, i + (i + j)⟩) (meetV upd_same rfl rfl rfl (by show (i : Int) + ((i + j : Nat) : Int) = ((i + (i + j) : Nat) : Int); omega)) ⟨by show i < k + 1; omega, by show i + j < k + 1; omega, Nat.succ_pos _, by show i + (i + j) < k + 1; omega⟩).mono (by omega)⟩⟩
              · rw [decide_eq_false c2]
                refine iteF ⟨vn i, rfl, (i : Int), 0, rfl, rfl, _, rfl, ?_⟩
                rw [decide_eq_true c1]
                refine iteT ⟨vn (i + j), rfl, vn k, rfl, ((i + j : Nat) : Int), (k : Int), rfl, rfl, _, rfl, ?_⟩
                by_cases c3 : ((i + j : Nat) : Int) < (k : Int)
                · rw [decide_eq_true c3]
                  exact iteT ⟨.ref M, rfl, .inl ⟨rfl, _, SqL.of eM⟩, vn i, rfl, vn (i + j), rfl, vn k, rfl, vn k, rfl, by show 4 ≤ sizeLine; decide, fun mt nmt => ⟨M, _, _, rfl, rfl, same_new nmt _ _ eM, small (by omega), _, _, _, rfl, same_put (sm.trans (same_new nmt)) nM, (Ts.put (same_new nmt _ _ eM) rfl).tup (same_new nmt _ _ esa2), (hms.app eM nmt (m := ⟨i, i + j, k, k⟩) (meetV upd_same rfl rfl rfl rfl) ⟨by show i < k + 1; omega, by show i + j < k + 1; omega, Nat.lt_succ_self _, Nat.lt_succ_self _⟩).mono (by omega)⟩⟩
                · rw [decide_eq_false c3]
                  refine iteF ⟨vn i, rfl, vn k, rfl, (i : Int), (k : Int), rfl, rfl, _, rfl, ?_⟩
                  by_cases c4 : (i : Int) < (k : Int)
                  · rw [decide_eq_true c4]
                    refine iteT ⟨vn (i + j), rfl, vn k, rfl, rfl, _, rfl, ?_⟩
                    cases decide (vn (i + j) = vn k) with
                    | true => exact iteT ⟨.ref M, rfl, .inl ⟨rfl, _, SqL.of eM⟩, vn i, rfl, vn (i + j), rfl, vn k, rfl, vn k, rfl, by show 4 ≤ sizeLine; decide, fun mt nmt => ⟨M, _, _, rfl, rfl, same_new nmt _ _ eM, small (by omega), _, _, _, rfl, same_put (sm.trans (same_new nmt)) nM, (Ts.put (same_new nmt _ _ eM) rfl).tup (same_new nmt _ _ esa2), (hms.app eM nmt (m := ⟨i, i + j, k, k⟩) (meetV upd_same rfl rfl rfl rfl) ⟨by show i < k + 1; omega, by show i + j < k + 1; omega, Nat.lt_succ_self _, Nat.lt_succ_self _⟩).mono (by omega)⟩⟩
                    | false => exact iteF ⟨_, _, _, rfl, sm, esa2, hms.mono (by omega)⟩
                  · rw [decide_eq_false c4]
                    exact iteF ⟨_, _, _, rfl, sm, esa2, hms.mono (by omega)⟩
            · rw [decide_eq_false c1]
              refine iteF ⟨vn i, rfl, (i : Int), 0, rfl, rfl, _, rfl, ?_⟩
              rw [decide_eq_false c1]
              refine iteF ⟨vn i, rfl, vn k, rfl, (i : Int), (k : Int), rfl, rfl, _, rfl, ?_⟩
              by_cases c4 : (i : Int) < (k : Int)
              · rw [decide_eq_true c4]
                refine iteT ⟨vn (i + j), rfl, vn k, rfl, rfl, _, rfl, ?_⟩
                cases decide (vn (i + j) = vn k) with
                | true => exact iteT ⟨.ref M, rfl, .inl ⟨rfl, _, SqL.of eM⟩, vn i, rfl, vn (i + j), rfl, vn k, rfl, vn k, rfl, by show 4 ≤ sizeLine; decide, fun mt nmt => ⟨M, _, _, rfl, rfl, same_new nmt _ _ eM, small (by omega), _, _, _, rfl, same_put (sm.trans (same_new nmt)) nM, (Ts.put (same_new nmt _ _ eM) rfl).tup (same_new nmt _ _ esa2), (hms.app eM nmt (m := ⟨i, i + j, k, k⟩) (meetV upd_same rfl rfl rfl rfl) ⟨by show i < k + 1; omega, by show i + j < k + 1; omega, Nat.lt_succ_self _, Nat.lt_succ_self _⟩).mono (by omega)⟩⟩
                | false => exact iteF ⟨_, _, _, rfl, sm, esa2, hms.mono (by omega)⟩
              · rw [decide_eq_false c4]
                exact iteF ⟨_, _, _, rfl, sm, esa2, hms.mono (by omega)⟩
          · obtain ⟨x9, x12, x13, rfl, sm, esa2, hms⟩ := hp
            exact ⟨_, _, _, _, rfl, sm, esa2, hms.mono (by omega)⟩
        · obtain ⟨x8, x9, x12, x13, rfl, sm, esa2, hms⟩ := hp
          rw [ekn] at hms
          obtain ⟨xs, eM, hxl, _⟩ := hms.sq
          refine ⟨vn k, rfl, (k : Int), 1, rfl, rfl, .ref sa, rfl, .ref M, rfl, M, xs, rfl, SqL.of eM, fun ma nma => ?_⟩
          have w1 := same_new (o := .tup xs) nma
          refine ⟨vn k, rfl, (k : Int), 1, rfl, rfl, (k : Int) + 1, rfl, by omega, by omega, fun D2 nD2 => ?_⟩
          refine lc_map walk_range (List.range (k + 1)) (by rw [List.length_range]; omega) (by omega) (fun _ y _ => ∃ b : Bool, y = .bl b) nD2 (fun _ _ _ _ _ h => h) (fun _ _ => trivial) (fun i m y H6 H7 KY hi s6 hy ky => ?_) (fun H6 ys s6 eD2 pr2 => ?_)
          · obtain ⟨rfl, rfl⟩ := hy
            exact ⟨rfl, _, rfl, vn k, rfl, rfl, ky _ _ (Same.refl _) ⟨_, rfl⟩⟩
          · obtain ⟨bls, rfl, hbl⟩ := bools_of pr2
            rw [List.length_range] at hbl
            refine ⟨D2, _, rfl, SqL.of eD2, fun ya nya => ⟨by show 4 ≤ sizeLine; decide, fun ra nra => ?_⟩⟩
            have w2 := same_new (o := .tup (bls.map V.bl)) nya
            have w3 := same_new (o := .tup [.int ((k : Int) + 1), .ref sa, .ref ma, .ref ya]) nra
            have w46 := (s6.trans w2).trans w3
            have w16 := w1.trans w46
            obtain ⟨ms, meets, rfl, h3, h4, h5⟩ := rule_new (ra := ra) (sa := sa) (ma := ma) (ya := ya) (sts := sts) (bls := bls) hms xs eM
            refine q _ ra ⟨k + 1, sts, meets, bls⟩ (sm.trans w16) ⟨sa, ma, ya, ms, upd_same, w16 _ _ esa2, w46 _ _ upd_same, paired_imp (fun _ _ h => w16 _ _ h) h5, w3 _ _ upd_same⟩ ⟨by show 1 ≤ k + 1; omega, by show k + 1 ≤ 5; omega, by show 1 ≤ sts.length; omega, by show sts.length ≤ 4; omega, fun x hx => by have := hst x hx; show x < k + 1; omega, h3, by show meets.length ≤ 100; omega, hbl⟩ hsl'
    | rest so m rr =>
      obtain ⟨sb, h1, h2⟩ := hq
      obtain ⟨o1, o2, o3, o4, o5⟩ := hqo
      refine ⟨.ref qa, rfl, qa, _, 1, _, rfl, rfl, SqT.of h1, at_nat (n := 1) rfl, ?_⟩
      refine ⟨Nat.zero_le _, fun M nM => ?_⟩
      have s1 := same_new (o := .lst []) nM
      refine ⟨.ref qa, rfl, qa, _, 0, _, rfl, rfl, SqT.of (s1 _ _ h1), at_nat (n := 0) rfl, rfl, _, rfl, strF (by decide +kernel) ?_⟩
      refine ⟨vn n, rfl, (n : Int), rfl, rng_lo, rng_hi (by omega), fun D nD => ?_⟩
      refine lc_map walk_range (List.range n) (by simp) (by simp; omega) (fun _ y _ => ∃ m : Nat, y = vn m ∧ m < 2) nD (fun _ _ _ _ _ h => h) (fun _ _ => trivial) (fun i m y H2 H3 KY hi s2 hy ky => ?_) (fun H2 ys s2 eD pr => ?_)
      · obtain ⟨rfl, rfl⟩ := hy
        refine ⟨rfl, _, rfl, .ref sb, rfl, sb, _, rfl, .inr (SqT.of (s2 _ _ (s1 _ _ h2))), rfl, flat_vn _, .inr ⟨_, rfl, ky _ _ (Same.refl _) ?_⟩⟩
        cases (if false = true then !inV (V.int (0 + (i : Nat))) (so.map vn) else inV (V.int (0 + (i : Nat))) (so.map vn)) with
        | true => exact ⟨1, rfl, by decide⟩
        | false => exact ⟨0, rfl, by decide⟩
      · obtain ⟨sts, rfl, hsl, hst⟩ := nats_of pr
        have hsl' : sts.length = n := by rw [hsl, List.length_range]
        refine ⟨D, _, rfl, SqL.of eD, fun sa nsa => ?_⟩
        have v1 := same_new (o := .tup (sts.map vn)) nsa
        have s3 := s2.trans v1
        have esa : (upd H2 sa (.tup (sts.map vn))) sa = some (.tup (sts.map vn)) := upd_same
        obtain ⟨H3, eH3⟩ : ∃ H3, H3 = upd H2 sa (.tup (sts.map vn)) := ⟨_, rfl⟩
        rw [← eH3] at s3 esa ⊢
        have s13 := s1.trans s3
        refine ⟨.ref qa, rfl, qa, _, 0, _, rfl, rfl, SqT.of (s13 _ _ h1), at_nat (n := 0) rfl, rfl, _, rfl, strF (by decide +kernel) ?_⟩
        refine ⟨.ref qa, rfl, 2, rfl, qa, _, rfl, SqT.of (s13 _ _ h1), fun z => absurd z (show ¬ (HT.sIx 4 0 (some 2) = 0 ∧ HT.sIx 4 4 none = 4) by decide), fun _ p np => ?_⟩
        rw [show cutV [V.str "rest", V.ref sb, vn m, vn rr] (some 2) none = [vn m, vn rr] from rfl]
        have s4 := same_new (o := .tup [vn m, vn rr]) np
        refine ⟨p, _, rfl, SqT.of upd_same, rfl, _, _, rfl, _, _, rfl, rfl, ?_⟩
        have em3 : MsAt (upd H3 p (.tup [vn m, vn rr])) M (m + 2) 0 := ⟨[], [], s4 _ _ (s3 _ _ upd_same), .nil, (fun m hm => by cases hm), Nat.le_refl _⟩
        have hm0 : (0 : Int) < (m : Int) := by omega
        refine ⟨vn m, rfl, (m : Int), rfl, rng_lo, rng_hi (by omega), ?_⟩
        refine for_it walk_range (fun i σ H4 => ∃ x8 x9 x12 x13, σ = [some (vn n), some (.ref qa), some (.ref sb), some (.ref M), none, none, some (.ref sa), none, x8, x9, some (vn m), some (vn rr), x12, x13] ∧ Same H H4 ∧ H4 sa = some (.tup (sts.map vn)) ∧ MsAt H4 M (m + 2) (5 * i))
          ⟨none, none, _, _, rfl, ((same_new nM).trans s3).trans s4, s4 _ _ esa, em3⟩ (fun i σ H4 _ _ => trivial) (fun i y σ H4 H5 hi hp hy => ?_) (fun σ H4 hp => ?_)
        · obtain ⟨x8, x9, x12, x13, rfl, sm, esa2, hms⟩ := hp
          obtain ⟨rfl, rfl⟩ := hy
          have him : i < m := by simpa using hi
          show gName 8 (.int (0 + (i : Nat))) _ _ _
          rw [show (0 : Int) + (i : Nat) = (i : Nat) by omega]
          refine ⟨vn i, rfl, vn m, rfl, (i : Int), (m : Int), rfl, ⟨by omega, by omega, by omega, by omega⟩, ?_⟩
          refine for_it walk_range (fun j σ H6 => ∃ x9 x12 x13, σ = [some (vn n), some (.ref qa), some (.ref sb), some (.ref M), none, none, some (.ref sa), none, some (vn i), x9, some (vn m), some (vn rr), x12, x13] ∧ Same H H6 ∧ H6 sa = some (.tup (sts.map vn)) ∧ MsAt H6 M (m + 2) (5 * i + j))
            ⟨_, _, _, rfl, sm, esa2, hms⟩ (fun j σ H6 _ _ => trivial) (fun j y σ H6 H7 hj hp hy => ?_) (fun σ H6 hp => ?_)
          · obtain ⟨x9, x12, x13, rfl, sm, esa2, hms⟩ := hp
            obtain ⟨rfl, rfl⟩ := hy
            have hjm : i + j < m := by omega
            show gName 9 (.int ((i : Int) + (j : Nat))) _ _ _
            rw [show (i : Int) + (j : Nat) = ((i + j : Nat) : Int) by omega]
            obtain ⟨xs, eM, hxl, _⟩ := hms.sq
            obtain ⟨dd, hd1, hd2⟩ := mplus m (decide (V.int (((i : Int) + ((i + j : Nat) : Int)) % (m : Int)) = vn rr))
            have hcc : ((i : Int) + ((i + j : Nat) : Int)) % (m : Int) = (((i + (i + j)) % m : Nat) : Int) := by
              rw [Int.natCast_emod]
              congr 1
            have hcm : (i + (i + j)) % m < m := Nat.mod_lt _ (by omega)
            refine ⟨.ref M, rfl, .inl ⟨rfl, _, SqL.of eM⟩, vn i, rfl, vn (i + j), rfl, vn i, rfl, vn (i + j), rfl, _, _, rfl, rfl, vn m, rfl, _, (m : Int), rfl, rfl, hm0, vn m, rfl, vn i, rfl, vn (i + j), rfl, _, _, rfl, rfl, vn m, rfl, _, (m : Int), rfl, rfl, hm0, vn rr, rfl, rfl, .inr ⟨_, rfl, _, _, rfl, rfl, by show 4 ≤ sizeLine; decide, fun mt nmt => ⟨M, _, _, rfl, rfl, same_new nmt _ _ eM, small (by omega), _, _, _, rfl, same_put (sm.trans (same_new nmt)) nM, (Ts.put (same_new nmt _ _ eM) rfl).tup (same_new nmt _ _ esa2), (hms.app eM nmt (m := ⟨i, i + j, (i + (i + j)) % m, dd⟩) (meetV upd_same rfl rfl hcc hd2) ⟨by show i < m + 2; omega, by show i + j < m + 2; omega, by show (i + (i + j)) % m < m + 2; omega, by show dd < m + 2; omega⟩).mono (by omega)⟩⟩⟩
          · obtain ⟨x9, x12, x13, rfl, sm, esa2, hms⟩ := hp
            obtain ⟨xs, eM, hxl, _⟩ := hms.sq
            obtain ⟨d1, hd1, hd1'⟩ := mplus m (!decide (vn i = vn rr))
            obtain ⟨d2, hd2, hd2'⟩ := mplus m (decide (vn i = vn rr))
            refine ⟨.ref M, rfl, .inl ⟨rfl, _, SqL.of eM⟩, vn i, rfl, vn m, rfl, vn i, rfl, vn rr, rfl, rfl, .inr ⟨_, rfl, _, _, rfl, rfl, vn i, rfl, vn m, rfl, vn i, rfl, vn rr, rfl, rfl, .inr ⟨_, rfl, _, _, rfl, rfl, by show 4 ≤ sizeLine; decide, fun mt nmt => ⟨M, _, _, rfl, rfl, same_new nmt _ _ eM, small (by omega), _, _, _, _, rfl, same_put (sm.trans (same_new nmt)) nM, (Ts.put (same_new nmt _ _ eM) rfl).tup (same_new nmt _ _ esa2), (hms.app eM nmt (m := ⟨i, d1, i, d2⟩) (meetV upd_same rfl hd1' rfl hd2') ⟨by show i < m + 2; omega, by show d1 < m + 2; omega, by show i < m + 2; omega, by show d2 < m + 2; omega⟩).mono (by omega)⟩⟩⟩⟩
        · obtain ⟨x8, x9, x12, x13, rfl, sm, esa2, hms⟩ := hp
          have emn : ((m : Int)).toNat = m := by omega
          rw [emn] at hms
          obtain ⟨xs, eM, hxl, _⟩ := hms.sq
          refine ⟨vn m, rfl, (m : Int), 2, rfl, rfl, .ref sa, rfl, .ref M, rfl, M, xs, rfl, SqL.of eM, fun ma nma => ?_⟩
          have w1 := same_new (o := .tup xs) nma
          refine ⟨vn m, rfl, (m : Int), 2, rfl, rfl, (m : Int) + 2, rfl, by omega, by omega, fun D2 nD2 => ?_⟩
          refine lc_map walk_range (List.range (m + 2)) (by rw [List.length_range]; omega) (by omega) (fun _ y _ => ∃ b : Bool, y = .bl b) nD2 (fun _ _ _ _ _ h => h) (fun _ _ => trivial) (fun i m' y H6 H7 KY hi s6 hy ky => ?_) (fun H6 ys s6 eD2 pr2 => ?_)
          · obtain ⟨rfl, rfl⟩ := hy
            refine ⟨rfl, _, rfl, vn rr, rfl, vn m, rfl, (m : Int), 1, rfl, rfl, by show 2 ≤ sizeLine; decide, fun t nt => ⟨t, _, rfl, .inr (SqT.of upd_same), rfl, rfl, ky _ _ (same_new nt) ⟨_, rfl⟩⟩⟩
          · obtain ⟨bls, rfl, hbl⟩ := bools_of pr2
            rw [List.length_range] at hbl
            refine ⟨D2, _, rfl, SqL.of eD2, fun ya nya => ⟨by show 4 ≤ sizeLine; decide, fun ra nra => ?_⟩⟩
            have w2 := same_new (o := .tup (bls.map V.bl)) nya
            have w3 := same_new (o := .tup [.int ((m : Int) + 2), .ref sa, .ref ma, .ref ya]) nra
            have w46 := (s6.trans w2).trans w3
            have w16 := w1.trans w46
            obtain ⟨ms, meets, rfl, h3, h4, h5⟩ := rule_new (ra := ra) (sa := sa) (ma := ma) (ya := ya) (sts := sts) (bls := bls) hms xs eM
            refine q _ ra ⟨m + 2, sts, meets, bls⟩ (sm.trans w16) ⟨sa, ma, ya, ms, upd_same, w16 _ _ esa2, w46 _ _ upd_same, paired_imp (fun _ _ h => w16 _ _ h) h5, w3 _ _ upd_same⟩ ⟨by show 1 ≤ m + 2; omega, by show m + 2 ≤ 5; omega, by show 1 ≤ sts.length; omega, by show sts.length ≤ 4; omega, fun x hx => by have := hst x hx; show x < m + 2; omega, h3, by show meets.length ≤ 100; omega, hbl⟩ hsl'
end
end KH

namespace KH
open PySem PySem.Spec PyProof.Rows L2 KM
section
variable {P : Program} {w : World} {K : PySem.W.Frag} {mg : Str → Option Value} {base : Heap} {ad : Nat → Addr} {fd : Nat → FuncData}
/-! ### _law_pair -/
theorem QAt.top {H : Hp} {a : Addr} : ∀ {q : Qu}, QAt H a q → ∃ (st : Str) (rest : List V), H a = some (.tup (.str st :: rest)) ∧ (st = Str.ofString "not" ∨ ((st == Str.ofString "not") = false ∧ q.dep = 0))
  | .least _ _, ⟨_, h1, _⟩ => ⟨_, _, h1, .inr ⟨by decide +kernel, rfl⟩⟩
  | .more _ _, ⟨_, _, h1, _⟩ => ⟨_, _, h1, .inr ⟨by decide +kernel, rfl⟩⟩
  | .rest _ _ _, ⟨_, h1, _⟩ => ⟨_, _, h1, .inr ⟨by decide +kernel, rfl⟩⟩
  | .not _, ⟨_, h1, _⟩ => ⟨_, _, h1, .inl rfl⟩
def spPair : Sp := fun vs H Q _ => ∃ (f : Addr) (k : Nat), vs = [.ref f, .int 4] ∧ FeedAt H f k ∧ k ≤ 40000 ∧
  ∀ H' t a b r q, SameB f H H' → FeedAt H' f (k + 130) → H' t = some (.tup [.ref a, .ref b]) → IsRule H' a r → r.Ok → QAt H' b q → q.Ok r.starts.length → q.dep < 2 → Q (.ref t) H'
theorem ok47 (T : Tx K mg ad fd) : FnOk P w K mg base CX0 5 (ad 47) (fd 47) P47 spPair := by
  have nd := sc47.nd
  have G42 := ok42 (P := P) (w := w) (base := base) T
  have G43 := ok43 (P := P) (w := w) (base := base) T
  have G44 := ok44 (P := P) (w := w) (base := base) T 2
  have G46 := ok46 (P := P) (w := w) (base := base) T
  refine T.f__law_pair.ok sc47 (fun vs H Q E h => ?_) (fun cdv A outer s H vs Q E hr h => ?_)
  · obtain ⟨f, k, rfl, _⟩ := h
    rfl
  · obtain ⟨f, k, rfl, hf, hk, q⟩ := h
    refine ⟨_, PSs.nox (pss_cons (ps_set (i := 2) nd rfl (Or.inl rfl) (pe_call G43 (hr.mono (by decide)) (by rfl) T.g__law_rule T.f__law_rule.kp T.b__law_rule .nil pass0 (pa_cons (pv 0) (pa_cons (pv 1) pa_nil))))
  (pss_cons (ps_set (i := 3) nd rfl (Or.inl rfl) (pe_call G44 (hr.mono (by decide)) (by rfl) T.g__law_question T.f__law_question.kp T.b__law_question .nil pass0 (pa_cons (pv 0) (pa_cons (pe_callB (KW.lenS K) (by rfl) T.b_len (by decide +kernel) (pa_cons (pe_ix (KW.ixT K) (pv 2) pe_int (fun _ _ => rfl)) pa_nil)) (pa_cons pe_int pa_nil)))))
  (pss_cons (ps_if (PW.pt (pw_or (pt_cmpR op_eq (pe_ix (KW.ixT K) (pv 3) pe_int (fun _ _ => rfl)) pe_str (nomark _)) (pw_or1 (pt_cmpR op_eq (pe_call G42 (hr.mono (by decide)) (by rfl) T.g__law_draw T.f__law_draw.kp T.b__law_draw .nil pass0 (pa_cons (pv 0) (pa_cons pe_int pa_nil))) pe_int (nomark _)))))
    (pss_one (ps_ret (pe_tup (pa_cons (pv 2) (pa_cons (pv 3) pa_nil)))))
    pss_nil)
  (pss_one (ps_ret (pe_tup (pa_cons (pe_call G46 (hr.mono (by decide)) (by rfl) T.g__law_made T.f__law_made.kp T.b__law_made .nil pass0 (pa_cons (pe_callB (KW.lenS K) (by rfl) T.b_len (by decide +kernel) (pa_cons (pe_ix (KW.ixT K) (pv 2) pe_int (fun _ _ => rfl)) pa_nil)) (pa_cons (pv 3) pa_nil))) (pa_cons (pv 3) pa_nil)))))))), ?_⟩
    refine ⟨.ref f, rfl, .int 4, rfl, f, k, rfl, hf, by omega, fun H1 ra r b1 hf1 hR ho => ?_⟩
    obtain ⟨sa, ma, ya, ms, hR'⟩ := id hR
    have h4 := ho.sorts4
    have h1 := ho.sorts1
    refine ⟨.ref f, rfl, .ref ra, rfl, ra, _, 1, _, rfl, rfl, SqT.of hR'.top, at_nat (n := 1) rfl, sa, _, rfl, .inr (SqT.of hR'.starts), f, k + 100, (r.starts.map vn).length, 1, rfl, by decide, by decide, hf1, by omega, by rw [List.length_map]; omega, by rw [List.length_map]; omega, fun H2 qa qq b2 hf2 hqa hqo hqd => ?_⟩
    rw [List.length_map] at hqo
    have b02 := b1.trans b2
    have t2 := hf1.te b2
    have hR2 := hR.te t2
    have hR2' := hR'.te t2
    obtain ⟨st, rest, eq0, hst⟩ := hqa.top
    refine ⟨.ref qa, rfl, qa, _, 0, _, rfl, rfl, SqT.of eq0, at_nat (n := 0) rfl, rfl, _, rfl, ?_⟩
    rcases hst with hst | ⟨hst, hdep⟩
    · subst hst
      refine strT ⟨.ref ra, rfl, .ref qa, rfl, by show 2 ≤ sizeLine; decide, fun t nt => ?_⟩
      have s3 := same_new (o := .tup [.ref ra, .ref qa]) nt
      exact q _ t ra qa r qq (sameB_new b02 nt) ((hf2.same s3).mono (by omega)) upd_same (hR2.te (tsS s3)) ho (hqa.te (tsS s3)) hqo (by omega)
    · refine strF hst ⟨.ref f, rfl, f, k + 120, 2, rfl, hf2.mono (by omega), by omega, by decide, by decide, fun H3 m b3 hf3 h0 hm => ⟨rfl, _, rfl, ?_⟩⟩
      have b03 := b02.trans b3
      have t3 := hf2.te b3
      cases decide (V.int m = V.int 0) with
      | true =>
        refine iteT ⟨.ref ra, rfl, .ref qa, rfl, by show 2 ≤ sizeLine; decide, fun t nt => ?_⟩
        have s3 := same_new (o := .tup [.ref ra, .ref qa]) nt
        exact q _ t ra qa r qq (sameB_new b03 nt) ((hf3.same s3).mono (by omega)) upd_same ((hR2.te t3).te (tsS s3)) ho ((hqa.te t3).te (tsS s3)) hqo (by omega)
      | false =>
        have hR3 := hR2'.te t3
        refine iteF ⟨.ref ra, rfl, ra, _, 1, _, rfl, rfl, SqT.of hR3.top, at_nat (n := 1) rfl, sa, _, rfl, .inr (SqT.of hR3.starts), .ref qa, rfl, (r.starts.map vn).length, qa, qq, rfl, hqa.te t3, hdep, by rw [List.length_map]; exact hqo, by rw [List.length_map]; omega, by rw [List.length_map]; omega, fun H4 rb r2 s4 hR4 ho4 hl4 => ⟨.ref qa, rfl, by show 2 ≤ sizeLine; decide, fun t nt => ?_⟩⟩
        rw [List.length_map] at hl4
        have s5 := same_new (o := .tup [.ref rb, .ref qa]) nt
        exact q _ t rb qa r2 qq (sameB_new (b03.trans (SameB.of s4)) nt) (((hf3.same s4).same s5).mono (by omega)) upd_same (hR4.te (tsS s5)) ho4 (hqa.te ((t3.trans (tsS s4)).trans (tsS s5))) (by rw [hl4]; exact hqo) (by omega)
/-! ### _law_is_let -/
def spIsLet : Sp := fun vs H Q _ => ∃ (a b x : Addr) (r : Rl) (q : Qu) (p : Pap), vs = [.ref a, .ref b, .ref x] ∧ IsRule H a r ∧ r.Ok ∧ QAt H b q ∧ q.Ok r.starts.length ∧ q.dep < 2 ∧ PapAt H x p ∧ p.Ok r ∧
  (Valid r q p → ∀ H', Same H H' → Q (.bl true) H') ∧ (¬ Valid r q p → ∀ H', Same H H' → Q (.bl false) H')
theorem ok58 (T : Tx K mg ad fd) : FnOk P w K mg base CX0 7 (ad 58) (fd 58) P58 spIsLet := by
  have nd := sc58.nd
  have G37 := ok37 (P := P) (w := w) (base := base) T
  refine T.f__law_is_let.ok sc58 (fun vs H Q E h => ?_) (fun cdv A outer s H vs Q E hr h => ?_)
  · obtain ⟨a, b, x, r, qq, p, rfl, _⟩ := h
    rfl
  · obtain ⟨a, b, x, r, qq, p, rfl, hR, ho, hq, hqo, hqd, hp, hpo, qy, qn⟩ := h
    refine ⟨_, PSs.nox (pss_cons (ps_set (i := 3) nd rfl (Or.inl rfl) pe_bl)
      (pss_cons (ps_try_only (Wout := fun _ _ _ _ => False) rfl rfl ⟨rfl, by decide, Or.inl T.g_NoPaper⟩ takes0
        (fun W pn xe tk _ => pss_one (ps_set (i := 3) nd rfl (Or.inl rfl) (pe_cmpR op_isBl (pe_callS G37 (hr.mono (by decide)) (by rfl) T.g_lets_err T.f_lets_err.kp T.b_lets_err (fun σ => passAt tk σ) (by exact (pa_cons (pv 0) (pa_cons (pv 1) (pa_cons (pv 2) pa_nil))))) pe_bl (nomark _))))
        (fun _ _ _ _ _ _ _ => pss_one (ps_set (i := 3) nd rfl (Or.inl rfl) pe_bl)))
      (pss_one (ps_ret (pv 3))))), ?_⟩
    refine ⟨.ref a, rfl, .ref b, rfl, .ref x, rfl, a, b, x, r, qq, p, rfl, hR, ho, hq, hqo, hqd, hp, hpo, fun v H1 s1 => ⟨true, true, rfl, rfl, _, rfl, qy v H1 s1⟩, fun nv H1 d s1 => ⟨true, T.exM, fun _ e ne => ⟨_, rfl, qn nv H1 s1⟩, fun z => nomatch z⟩⟩
end
end KH

namespace KH
open PySem PySem.Spec PyProof.Rows L2 KM
section
variable {P : Program} {w : World} {K : PySem.W.Frag} {mg : Str → Option Value} {base : Heap} {ad : Nat → Addr} {fd : Nat → FuncData}
/-! ### rows of ranks, cut and put together -/
theorem paired_take {α β : Type} {R : α → β → Prop} : ∀ {l : List α} {m : List β} (n : Nat), Paired R l m → Paired R (l.take n) (m.take n)
  | _, _, 0, _ => by simpa using Paired.nil
  | _, _, n + 1, .nil => .nil
  | _, _, n + 1, .cons h t => .cons h (paired_take n t)
theorem paired_drop {α β : Type} {R : α → β → Prop} : ∀ {l : List α} {m : List β} (n : Nat), Paired R l m → Paired R (l.drop n) (m.drop n)
  | _, _, 0, h => by simpa using h
  | _, _, n + 1, .nil => .nil
  | _, _, n + 1, .cons h t => paired_drop n t
theorem sliceR {H : Hp} {p : Addr} {rk : List (Crowd × Int)} {lo hi : Option Int} {Q : VK} (h : RanksAt H p rk) (q : ∀ p' H' rk', Same H H' → RanksAt H' p' rk' → (∀ x ∈ rk', x ∈ rk) → rk'.length ≤ rk.length → Q (.ref p') H') : rSlP (.ref p) lo hi H Q := by
  obtain ⟨ts, hp, pts⟩ := h
  refine ⟨p, _, rfl, hp, fun _ => q p H rk (Same.refl H) ⟨ts, hp, pts⟩ (fun _ h => h) (Nat.le_refl _), fun _ p' o ho np => ?_⟩
  have s := same_new (o := .frz o (.tup (cutV (ts.map V.ref) lo hi))) np
  refine q p' _ ((rk.drop (HT.sIx (ts.map V.ref).length 0 lo)).take (HT.sIx (ts.map V.ref).length (ts.map V.ref).length hi - HT.sIx (ts.map V.ref).length 0 lo)) s ⟨(ts.drop (HT.sIx (ts.map V.ref).length 0 lo)).take (HT.sIx (ts.map V.ref).length (ts.map V.ref).length hi - HT.sIx (ts.map V.ref).length 0 lo), ⟨o, ho, ?_⟩, paired_take _ (paired_drop _ (paired_imp (fun _ _ h => h.te (tsS s)) pts))⟩ (fun x hx => List.mem_of_mem_drop (List.mem_of_mem_take hx)) ?_
  · rw [upd_same]
    unfold cutV
    rw [List.map_take, List.map_drop]
  · rw [List.length_take, List.length_drop]
    omega
theorem catR {H : Hp} {a b : Addr} {r1 r2 : List (Crowd × Int)} {Q : VK} (h1 : RanksAt H a r1) (h2 : RanksAt H b r2) (hl : r1.length + r2.length ≤ 100000) (q : ∀ p' H', Same H H' → RanksAt H' p' (r1 ++ r2) → Q (.ref p') H') : rCatP K (.ref a) (.ref b) H Q := by
  obtain ⟨ts1, hp1, pt1⟩ := id h1
  obtain ⟨ts2, hp2, pt2⟩ := id h2
  have l1 := Paired.length pt1
  have l2 := Paired.length pt2
  refine ⟨a, b, _, _, rfl, rfl, hp1, hp2, smallL (by rw [List.length_map, List.length_map]; omega), fun z => ?_, fun _ z => ?_, fun _ _ p o ho np => ?_⟩
  · have e : r1 = [] := List.eq_nil_of_length_eq_zero (by have := congrArg List.length z; rw [List.length_map] at this; simp at this; rw [this] at l1; simpa using l1.symm)
    rw [e] at q
    exact q b H (Same.refl H) h2
  · have e : r2 = [] := List.eq_nil_of_length_eq_zero (by have := congrArg List.length z; rw [List.length_map] at this; simp at this; rw [this] at l2; simpa using l2.symm)
    rw [e, List.append_nil] at q
    exact q a H (Same.refl H) h1
  · have s := same_new (o := .frz o (.tup (ts1.map V.ref ++ ts2.map V.ref))) np
    refine q p _ s ⟨ts1 ++ ts2, ⟨o, ho, by rw [upd_same, List.map_append]⟩, paired_app (paired_imp (fun _ _ h => h.te (tsS s)) pt1) (paired_imp (fun _ _ h => h.te (tsS s)) pt2)⟩
/-! ### _law_near -/
structure Based (r : Rl) (p : Pap) : Prop where
  ok : p.Ok r
  nd : (keysOf p.rk).Nodup
  ne : p.rk ≠ []
  few : p.rk.length ≤ 130
def spNear : Sp := fun vs H Q _ => ∃ (f a L : Addr) (k : Nat) (r : Rl) (xs : List Addr) (ps : List Pap), vs = [.ref f, .ref a, .ref L] ∧ FeedAt H f k ∧ k ≤ 50000 ∧ IsRule H a r ∧ r.Ok ∧ H L = some (.lst (xs.map V.ref)) ∧ Paired (PapAt H) xs ps ∧ ps ≠ [] ∧ ps.length ≤ 100 ∧ (∀ p ∈ ps, Based r p) ∧
  ∀ H' t p, SameB f H H' → FeedAt H' f (k + 5) → PapAt H' t p → p.Ok r → Q (.ref t) H'
theorem ok61 (T : Tx K mg ad fd) : FnOk P w K mg base CX0 2 (ad 61) (fd 61) P61 spNear := by
  have nd := sc61.nd
  have G42 := ok42 (P := P) (w := w) (base := base) T
  have G60 := ok60 (P := P) (w := w) (base := base) T
  refine T.f__law_near.ok sc61 (fun vs H Q E h => ?_) (fun cdv A outer s H vs Q E hr h => ?_)
  · obtain ⟨f, a, L, k, r, xs, ps, rfl, _⟩ := h
    rfl
  · obtain ⟨f, a, L, k, r, xs, ps, rfl, hf, hk, hR, ho, eL, pxs, hne, hpl, hba, q⟩ := h
    refine ⟨_, PSs.nox (pss_cons (ps_set (i := 3) nd rfl (Or.inl rfl) (pe_ix (KW.ixL K) (pv 2) (pe_call G42 (hr.mono (by decide)) (by rfl) T.g__law_draw T.f__law_draw.kp T.b__law_draw .nil pass0 (pa_cons (pv 0) (pa_cons (pe_callB (KW.lenS K) (by rfl) T.b_len (by decide +kernel) (pa_cons (pv 2) pa_nil)) pa_nil))) (fun _ _ => rfl)))
  (pss_cons (ps_set (i := 4) nd rfl (Or.inl rfl) (pe_ix (KW.ixL K) (pv 2) (pe_call G42 (hr.mono (by decide)) (by rfl) T.g__law_draw T.f__law_draw.kp T.b__law_draw .nil pass0 (pa_cons (pv 0) (pa_cons (pe_callB (KW.lenS K) (by rfl) T.b_len (by decide +kernel) (pa_cons (pv 2) pa_nil)) pa_nil))) (fun _ _ => rfl)))
  (pss_cons (ps_set (i := 5) nd rfl (Or.inl rfl) (pe_call G42 (hr.mono (by decide)) (by rfl) T.g__law_draw T.f__law_draw.kp T.b__law_draw .nil pass0 (pa_cons (pv 0) (pa_cons pe_int pa_nil))))
  (pss_cons (ps_set (i := 6) nd rfl (Or.inl rfl) (pe_call G42 (hr.mono (by decide)) (by rfl) T.g__law_draw T.f__law_draw.kp T.b__law_draw .nil pass0 (pa_cons (pv 0) (pa_cons (pe_callB (KW.lenS K) (by rfl) T.b_len (by decide +kernel) (pa_cons (pe_ix (KW.ixT K) (pv 3) pe_int (fun _ _ => rfl)) pa_nil)) pa_nil))))
  (pss_cons (ps_if (pt_cmpR op_eq (pv 5) pe_int (nomark _))
    (pss_one (ps_ret (pe_tup (pa_cons (pe_ix (KW.ixT K) (pv 3) pe_int (fun _ _ => rfl)) (pa_cons (pe_ix (KW.ixT K) (pv 4) pe_int (fun _ _ => rfl)) (pa_cons (pe_ix (KW.ixT K) (pv 3) pe_int (fun _ _ => rfl)) pa_nil))))))
    pss_nil)
  (pss_cons (ps_if (pt_cmpR op_eq (pv 5) pe_int (nomark _))
    (pss_one (ps_ret (pe_tup (pa_cons (pe_ix (KW.ixT K) (pv 3) pe_int (fun _ _ => rfl)) (pa_cons (pe_ix (KW.ixT K) (pv 3) pe_int (fun _ _ => rfl)) (pa_cons (pe_ix (KW.ixT K) (pv 4) pe_int (fun _ _ => rfl)) pa_nil))))))
    pss_nil)
  (pss_cons (ps_if (pt_cmpR op_eq (pv 5) pe_int (nomark _))
    (pss_one (ps_ret (pe_tup (pa_cons (pe_ix (KW.ixT K) (pv 3) pe_int (fun _ _ => rfl)) (pa_cons (pe_slice (KW.slA K) (pe_ix (KW.ixT K) (pv 3) pe_int (fun _ _ => rfl)) po_none (po_some (pe_call G42 (hr.mono (by decide)) (by rfl) T.g__law_draw T.f__law_draw.kp T.b__law_draw .nil pass0 (pa_cons (pv 0) (pa_cons (pe_op op_add (pe_callB (KW.lenS K) (by rfl) T.b_len (by decide +kernel) (pa_cons (pe_ix (KW.ixT K) (pv 3) pe_int (fun _ _ => rfl)) pa_nil)) pe_int) pa_nil))))) (pa_cons (pe_ix (KW.ixT K) (pv 3) pe_int (fun _ _ => rfl)) pa_nil))))))
    pss_nil)
  (pss_cons (ps_if (pt_cmpR op_eq (pv 5) pe_int (nomark _))
    (pss_one (ps_ret (pe_tup (pa_cons (pe_ix (KW.ixT K) (pv 3) pe_int (fun _ _ => rfl)) (pa_cons (pe_ix (KW.ixT K) (pv 3) pe_int (fun _ _ => rfl)) (pa_cons (pe_op (KW.catP K) (pe_slice sl_tupP (pe_ix (KW.ixT K) (pv 3) pe_int (fun _ _ => rfl)) po_none (po_some (pv 6))) (pe_slice sl_tupP (pe_ix (KW.ixT K) (pv 3) pe_int (fun _ _ => rfl)) (po_some (pe_op op_add (pv 6) pe_int)) po_none)) pa_nil))))))
    pss_nil)
  (pss_cons (ps_if (pt_cmpR op_eq (pv 5) pe_int (nomark _))
    (pss_one (ps_ret (pe_tup (pa_cons (pe_ix (KW.ixT K) (pv 3) pe_int (fun _ _ => rfl)) (pa_cons (pe_ix (KW.ixT K) (pv 3) pe_int (fun _ _ => rfl)) (pa_cons (pe_callTy (KW.tupP K) (by rfl) T.b_tuple (by decide +kernel) (pa_cons (pe_lc (own := [("_law_crowd", 9), ("_law_rank", 10)]) (g := (gTup K 2 (gCons (gName 9) (gCons (gName 10) gNil)))) (tt := tYes) (by rfl) nd (pi_tup (pe_ix (KW.ixT K) (pv 3) pe_int (fun _ _ => rfl))) (blkOk_by (N := N61) (sc := defScope (topS 61)) (by decide +kernel)) (fun _ _ _ _ _ => pg_tup rfl (pgs_cons (pg_name (i := 9) nd rfl (Or.inl rfl)) (pgs_cons (pg_name (i := 10) nd rfl (Or.inl rfl)) pgs_nil))) (fun _ _ _ _ _ => pts_nil) (fun _ _ _ _ _ => (pe_tup (pa_cons (pv 9) (pa_cons pe_int pa_nil))))) pa_nil)) pa_nil))))))
    pss_nil)
  (pss_cons (ps_if (pt_cmpR op_eq (pv 5) pe_int (nomark _))
    (pss_cons (ps_set (i := 7) nd rfl (Or.inl rfl) (pe_call G60 (hr.mono (by decide)) (by rfl) T.g__law_all_crowds T.f__law_all_crowds.kp T.b__law_all_crowds .nil pass0 (pa_cons (pe_ix (KW.ixT K) (pv 1) pe_int (fun _ _ => rfl)) (pa_cons (pe_callB (KW.sumT K) (by rfl) T.b_sum (by decide +kernel) (pa_cons (pe_ix (KW.ixT K) (pv 3) pe_int (fun _ _ => rfl)) pa_nil)) pa_nil))))
  (pss_cons (ps_set (i := 8) nd rfl (Or.inr rfl) (pe_callTy (KW.dctT K (hu_d hr)) (by rfl) T.b_dict (by decide +kernel) (pa_cons (pe_ix (KW.ixT K) (pv 3) pe_int (fun _ _ => rfl)) pa_nil)))
  (pss_one (ps_ret (pe_tup (pa_cons (pe_ix (KW.ixT K) (pv 3) pe_int (fun _ _ => rfl)) (pa_cons (pe_tup pa_nil) (pa_cons (pe_callTy (KW.tupP K) (by rfl) T.b_tuple (by decide +kernel) (pa_cons (pe_lc (own := [("_law_crowd", 9)]) (g := (gName 9)) (tt := tYes) (by rfl) nd (pi_list (pv 7)) (blkOk_by (N := N61) (sc := defScope (topS 61)) (by decide +kernel)) (fun _ _ _ _ _ => pg_name (i := 9) nd rfl (Or.inl rfl)) (fun _ _ _ _ _ => pts_nil) (fun _ _ _ _ _ => (pe_tup (pa_cons (pv 9) (pa_cons (pe_dget2 (hu_of hr) (pv 8) (pv 9) pe_int ⟨rfl, rfl, rfl, rfl⟩) pa_nil))))) pa_nil)) pa_nil))))))))
    pss_nil)
  (pss_cons (ps_asg (pe_ix (KW.ixT K) (pe_ix (KW.ixT K) (pv 3) pe_int (fun _ _ => rfl)) (pv 6) (fun _ _ => rfl)) (pg_tup rfl (pgs_cons (pg_name (i := 9) nd rfl (Or.inl rfl)) (pgs_cons (pg_name (i := 10) nd rfl (Or.inl rfl)) pgs_nil))))
  (pss_cons (ps_set (i := 8) nd rfl (Or.inr rfl) (pe_op (KW.catP K) (pe_op (KW.catP K) (pe_slice sl_tupP (pe_ix (KW.ixT K) (pv 3) pe_int (fun _ _ => rfl)) po_none (po_some (pv 6))) (pe_tupP (pa_cons (pe_tup (pa_cons (pv 9) (pa_cons (pe_callB (call_max2 rfl) (by rfl) T.b_max (by decide +kernel) (pa_cons pe_int (pa_cons (pe_op op_add (pv 10) (pe_ix (KW.ixL K) (pe_lst (pa_cons pe_int (pa_cons (pe_un un_neg pe_int) pa_nil))) (pe_op op_sub (pv 5) pe_int) (fun _ _ => rfl))) pa_nil))) pa_nil))) pa_nil))) (pe_slice sl_tupP (pe_ix (KW.ixT K) (pv 3) pe_int (fun _ _ => rfl)) (po_some (pe_op op_add (pv 6) pe_int)) po_none)))
  (pss_one (ps_ret (pe_tup (pa_cons (pe_ix (KW.ixT K) (pv 3) pe_int (fun _ _ => rfl)) (pa_cons (pe_ix (KW.ixT K) (pv 3) pe_int (fun _ _ => rfl)) (pa_cons (pv 8) pa_nil)))))))))))))))))), ?_⟩
    have hxl : xs.length = ps.length := Paired.length pxs
    have hp0 : 0 < ps.length := List.length_pos_iff.mpr hne
    have hLf : L ≠ f := fun z => by
      obtain ⟨c, l, t, e, _⟩ := id hf
      rw [← z, eL] at e
      have e' := Option.some.inj e
      injection e' with e'
      cases xs with
      | nil => cases e'
      | cons x xs => cases (List.cons.inj e').1
    have hml : (xs.map V.ref).length = ps.length := by rw [List.length_map, hxl]
    -- one
    refine ⟨.ref L, rfl, .ref f, rfl, .ref L, rfl, L, _, rfl, .inl (SqL.of eL), f, k, _, rfl, hf, by omega, by rw [hml]; omega, by rw [hml]; omega, fun H1 d1 b1 hf1 hd0 hd1 => ?_⟩
    obtain ⟨j1, rfl⟩ := Int.eq_ofNat_of_zero_le hd0
    rw [hml] at hd1
    obtain ⟨x1, hx1⟩ : ∃ x1, xs[j1]? = some x1 := ⟨xs[j1], List.getElem?_eq_getElem (by omega)⟩
    obtain ⟨p1, hp1, hP1⟩ := paired_at' pxs hx1
    have hb1 := hba p1 (List.mem_of_getElem? hp1)
    have t1 := hf.te b1
    have eL1 := b1 _ _ hLf eL
    refine ⟨L, _, _, .ref x1, rfl, rfl, SqL.of eL1, at_nat (map_at hx1), ?_⟩
    -- the other
    refine ⟨.ref L, rfl, .ref f, rfl, .ref L, rfl, L, _, rfl, .inl (SqL.of eL1), f, k + 1, _, rfl, hf1, by omega, by rw [hml]; omega, by rw [hml]; omega, fun H2 d2 b2 hf2 he0 he1 => ?_⟩
    obtain ⟨j2, rfl⟩ := Int.eq_ofNat_of_zero_le he0
    rw [hml] at he1
    obtain ⟨x2, hx2⟩ : ∃ x2, xs[j2]? = some x2 := ⟨xs[j2], List.getElem?_eq_getElem (by omega)⟩
    obtain ⟨p2, hp2, hP2⟩ := paired_at' pxs hx2
    have hb2 := hba p2 (List.mem_of_getElem? hp2)
    have t2 := t1.trans (hf1.te b2)
    refine ⟨L, _, _, .ref x2, rfl, rfl, SqL.of (b2 _ _ hLf eL1), at_nat (map_at hx2), ?_⟩
    -- the way
    refine ⟨.ref f, rfl, f, k + 2, 8, rfl, hf2, by omega, by decide, by decide, fun H3 wy b3 hf3 hw0 hw8 => ?_⟩
    have t3 := t2.trans (hf2.te b3)
    obtain ⟨c1, n1, k1, hq1⟩ := hP1.te t3
    obtain ⟨ts1, hpl1, pts1⟩ := id hq1.rk
    have htl1 : ts1.length = p1.rk.length := Paired.length pts1
    have hrk0 : 0 < p1.rk.length := List.length_pos_iff.mpr hb1.ne
    have hfew := hb1.few
    have htm : (ts1.map V.ref).length = p1.rk.length := by rw [List.length_map, htl1]
    -- the place
    refine ⟨.ref f, rfl, .ref x1, rfl, x1, _, 2, _, rfl, rfl, SqT.of hq1.top, at_nat (n := 2) rfl, k1, _, rfl, .inr hpl1.sq, f, k + 3, _, rfl, hf3, by omega, by rw [htm]; omega, by rw [htm]; omega, fun H4 d4 b4 hf4 ha0 ha1 => ?_⟩
    obtain ⟨at4, rfl⟩ := Int.eq_ofNat_of_zero_le ha0
    rw [htm] at ha1
    have t4 := hf3.te b4
    have b04 := ((b1.trans b2).trans b3).trans b4
    have q1 := hq1.te t4
    obtain ⟨c2, n2, k2, q2⟩ := (hP2.te t3).te t4
    have hR4 := (hR.te t3).te t4
    obtain ⟨tz, htz, hZ⟩ : ∃ tz, ts1[at4]? = some tz ∧ True := ⟨ts1[at4], List.getElem?_eq_getElem (by omega), trivial⟩
    clear hq1 hpl1 pts1
    obtain ⟨ts, hpl4, pts4⟩ := id q1.rk
    have htl : ts.length = p1.rk.length := Paired.length pts4
    have o1 := hb1.ok
    have o2 := hb2.ok
    refine ⟨.int wy, rfl, rfl, _, rfl, ?_⟩
    by_cases w0 : wy = 0
    · refine eqT w0 ⟨.ref x1, rfl, x1, _, 0, _, rfl, rfl, SqT.of q1.top, at_nat (n := 0) rfl, .ref x2, rfl, x2, _, 1, _, rfl, rfl, SqT.of q2.top, at_nat (n := 1) rfl, .ref x1, rfl, x1, _, 2, _, rfl, rfl, SqT.of q1.top, at_nat (n := 2) rfl, by show 3 ≤ sizeLine; decide, fun t nt => ?_⟩
      have s5 := same_new (o := .tup [.ref c1, .ref n2, .ref k1]) nt
      exact q _ t ⟨p1.cs, p2.ns, p1.rk⟩ (sameB_new b04 nt) ((hf4.same s5).mono (by omega)) ⟨c1, n2, k1, upd_same, s5 _ _ q1.cs, s5 _ _ q2.ns, q1.rk.te (tsS s5)⟩ ⟨o1.cs, o2.ns, o1.rk, o1.rooms⟩
    refine eqF w0 ⟨_, rfl, rfl, _, rfl, ?_⟩
    by_cases w1 : wy = 1
    · refine eqT w1 ⟨.ref x1, rfl, x1, _, 0, _, rfl, rfl, SqT.of q1.top, at_nat (n := 0) rfl, .ref x1, rfl, x1, _, 1, _, rfl, rfl, SqT.of q1.top, at_nat (n := 1) rfl, .ref x2, rfl, x2, _, 2, _, rfl, rfl, SqT.of q2.top, at_nat (n := 2) rfl, by show 3 ≤ sizeLine; decide, fun t nt => ?_⟩
      have s5 := same_new (o := .tup [.ref c1, .ref n1, .ref k2]) nt
      exact q _ t ⟨p1.cs, p1.ns, p2.rk⟩ (sameB_new b04 nt) ((hf4.same s5).mono (by omega)) ⟨c1, n1, k2, upd_same, s5 _ _ q1.cs, s5 _ _ q1.ns, q2.rk.te (tsS s5)⟩ ⟨o1.cs, o1.ns, o2.rk, o2.rooms⟩
    refine eqF w1 ⟨_, rfl, rfl, _, rfl, ?_⟩
    by_cases w2 : wy = 2
    · have hnl : (p1.ns.map vn).length = p1.ns.length := List.length_map _
      have hns := o1.ns
      refine eqT w2 ⟨.ref x1, rfl, x1, _, 0, _, rfl, rfl, SqT.of q1.top, at_nat (n := 0) rfl, .ref x1, rfl, x1, _, 1, _, rfl, rfl, SqT.of q1.top, at_nat (n := 1) rfl, .ref f, rfl, .ref x1, rfl, x1, _, 1, _, rfl, rfl, SqT.of q1.top, at_nat (n := 1) rfl, n1, _, rfl, .inr (SqT.of q1.ns), _, 1, rfl, rfl, f, k + 4, _, rfl, hf4, by omega, by rw [hnl]; omega, by rw [hnl]; omega, fun H5 cut b5 hf5 hc0 hc1 => ?_⟩
      have t5 := hf4.te b5
      have q15 := q1.te t5
      have fin : ∀ (H6 : Hp) (nn : Addr) (l : List Nat), Same H5 H6 → H6 nn = some (.tup (l.map vn)) → l.length ≤ 1000 → ∀ t, H6 t = none → Q (.ref t) (upd H6 t (.tup [.ref c1, .ref nn, .ref k1])) := fun H6 nn l s6 enn hl t nt => by
        have s7 := s6.trans (same_new (o := .tup [.ref c1, .ref nn, .ref k1]) nt)
        exact q _ t ⟨p1.cs, l, p1.rk⟩ ((b04.trans b5).trans (SameB.of s7)) ((hf5.same s7).mono (by omega)) ⟨c1, nn, k1, upd_same, s7 _ _ q15.cs, same_new nt _ _ enn, q15.rk.te (tsS s7)⟩ ⟨o1.cs, hl, o1.rk, o1.rooms⟩
      refine ⟨cut, rfl, n1, _, rfl, SqT.of q15.ns, fun _ => ?_, fun _ nn nnn => ?_⟩
      · exact ⟨.ref x1, rfl, x1, _, 2, _, rfl, rfl, SqT.of q15.top, at_nat (n := 2) rfl, by show 3 ≤ sizeLine; decide, fin H5 n1 p1.ns (Same.refl _) q15.ns hns⟩
      · obtain ⟨l', e1, e2, e3⟩ := cutV_map vn p1.ns none (some cut)
        rw [e1] at ⊢
        exact ⟨.ref x1, rfl, x1, _, 2, _, rfl, rfl, SqT.of (same_new nnn _ _ q15.top), at_nat (n := 2) rfl, by show 3 ≤ sizeLine; decide, fin _ nn l' (same_new nnn) upd_same (by omega)⟩
    refine eqF w2 ⟨_, rfl, rfl, _, rfl, ?_⟩
    by_cases w3 : wy = 3
    · refine eqT w3 ⟨.ref x1, rfl, x1, _, 0, _, rfl, rfl, SqT.of q1.top, at_nat (n := 0) rfl, .ref x1, rfl, x1, _, 1, _, rfl, rfl, SqT.of q1.top, at_nat (n := 1) rfl, .ref x1, rfl, x1, _, 2, _, rfl, rfl, SqT.of q1.top, at_nat (n := 2) rfl, _, rfl, at4, rfl, sliceR q1.rk fun pa H5 ra s5 hra hsa hla => ?_⟩
      have q15 := q1.te (tsS s5)
      refine ⟨.ref x1, rfl, x1, _, 2, _, rfl, rfl, SqT.of q15.top, at_nat (n := 2) rfl, _, rfl, at4, 1, rfl, rfl, _, rfl, ?_⟩
      show tNoPart _ _ _
      unfold tNoPart
      refine sliceR q15.rk fun pb H6 rb s6 hrb hsb hlb => catR (hra.te (tsS s6)) hrb (by omega) fun pc H7 s7 hrc => ⟨by show 3 ≤ sizeLine; decide, fun t nt => ?_⟩
      have s8 := same_new (o := .tup [.ref c1, .ref n1, .ref pc]) nt
      have s48 := ((s5.trans s6).trans s7).trans s8
      refine q _ t ⟨p1.cs, p1.ns, ra ++ rb⟩ (b04.trans (SameB.of s48)) ((hf4.same s48).mono (by omega)) ⟨c1, n1, pc, upd_same, s48 _ _ q1.cs, s48 _ _ q1.ns, hrc.te (tsS s8)⟩ ⟨o1.cs, o1.ns, by show (ra ++ rb).length ≤ 1000; rw [List.length_append]; omega, fun z hz => ?_⟩
      rcases List.mem_append.mp hz with h | h
      · exact o1.rooms z (hsa z h)
      · exact o1.rooms z (hsb z h)
    refine eqF w3 ⟨_, rfl, rfl, _, rfl, ?_⟩
    by_cases w4 : wy = 4
    · refine eqT w4 ⟨.ref x1, rfl, x1, _, 0, _, rfl, rfl, SqT.of q1.top, at_nat (n := 0) rfl, .ref x1, rfl, x1, _, 1, _, rfl, rfl, SqT.of q1.top, at_nat (n := 1) rfl, .ref x1, rfl, x1, _, 2, _, rfl, rfl, SqT.of q1.top, at_nat (n := 2) rfl, k1, rfl, ⟨_, hpl4.sq⟩, fun D nD => ?_⟩
      refine lc_map (walk_tup (xs := ts.map V.ref)) p1.rk (by rw [List.length_map, htl]) (by rw [List.length_map, htl]; omega) (fun z y H => ∃ t k, y = .ref t ∧ RankAt H t (z.1, k)) nD (fun _ _ _ _ t h => by obtain ⟨u, k, h1, h2⟩ := h; exact ⟨u, k, h1, h2.te t⟩) (fun H5 s5 => (plT_te (tsS s5) hpl4).sq) (fun i z y H5 H6 KY hi s5 hy ky => ?_) (fun H5 ys s5 eD pr => ?_)
      · obtain ⟨rfl, hy⟩ := hy
        obtain ⟨tb, htb, rfl⟩ := map_at' hy
        obtain ⟨z', hz', b, hb1', hb2'⟩ := paired_at' pts4 htb
        rw [hi] at hz'
        cases hz'
        exact ⟨tb, _, rfl, SqT.of (s5 _ _ hb1'), rfl, _, _, rfl, _, _, rfl, rfl, rfl, .ref b, rfl, by show 2 ≤ sizeLine; decide, fun t nt => ky _ _ (same_new nt) ⟨t, 0, rfl, b, upd_same, same_new nt _ _ (s5 _ _ hb2')⟩⟩
      · obtain ⟨ts3, rk, rfl, pts3, hkey⟩ := ranks_of2 (f := fun z : Crowd × Int => z.1) pr
        have hrl : rk.length = p1.rk.length := by
          have := congrArg List.length hkey
          unfold keysOf at this
          rw [List.length_map, List.length_map] at this
          exact this
        refine ⟨D, _, rfl, SqL.of eD, fun pp oo hoo npp => ⟨by show 3 ≤ sizeLine; decide, fun t nt => ?_⟩⟩
        have u2 := same_new (o := .frz oo (.tup (ts3.map V.ref))) npp
        have u3 := same_new (o := .tup [.ref c1, .ref n1, .ref pp]) nt
        have sall := s5.trans (u2.trans u3)
        refine q _ t ⟨p1.cs, p1.ns, rk⟩ (b04.trans (SameB.of sall)) ((hf4.same sall).mono (by omega)) ⟨c1, n1, pp, upd_same, sall _ _ q1.cs, sall _ _ q1.ns, ts3, plT_te (tsS u3) (PlT.new hoo), paired_imp (fun _ _ h => h.te (tsS (u2.trans u3))) pts3⟩ ⟨o1.cs, o1.ns, by show rk.length ≤ 1000; omega, fun z hz => ?_⟩
        have : z.1 ∈ keysOf rk := List.mem_map.mpr ⟨z, hz, rfl⟩
        rw [hkey] at this
        obtain ⟨z', hz', e⟩ := List.mem_map.mp this
        rw [← e]
        exact o1.rooms z' hz'
    refine eqF w4 ⟨_, rfl, rfl, _, rfl, ?_⟩
    by_cases w5 : wy = 5
    · obtain ⟨sa, ma, ya, ms, hR'⟩ := id hR4
      have hcs := o1.cs
      refine eqT w5 ⟨.ref a, rfl, a, _, 0, vn r.rooms, rfl, rfl, SqT.of hR'.top, at_nat (n := 0) rfl, .ref x1, rfl, x1, _, 0, _, rfl, rfl, SqT.of q1.top, at_nat (n := 0) rfl, c1, p1.cs, rfl, SqT.of q1.cs, r.rooms, p1.cs.sum, rfl, ho.rooms1, ho.rooms5, by have := hcs.sum1; omega, hcs.sum4, fun H5 wl wide s5 hwl hwr hwn => ?_⟩
      have q15 := q1.te (tsS s5)
      obtain ⟨tsb, hplb, ptsb⟩ := id q15.rk
      obtain ⟨wbs, hwbl, ewl, pwl⟩ := hwl.len
      refine ⟨.ref x1, rfl, x1, _, 2, _, rfl, rfl, SqT.of q15.top, at_nat (n := 2) rfl, k1, tsb, _, rfl, .inr hplb, prs_of ptsb, fun To nT => ?_⟩
      rw [merge_nd (by rw [intD_keys]; exact hb1.nd)]
      have s6 := same_new (o := .dT (asg (intD p1.rk))) nT
      have q16 := q15.te (tsS s6)
      refine ⟨.ref x1, rfl, x1, _, 0, _, rfl, rfl, SqT.of q16.top, at_nat (n := 0) rfl, by show 0 ≤ sizeLine; decide, fun z nz => ⟨.ref wl, rfl, wl, rfl, ⟨_, SqL.of (same_new nz _ _ (s6 _ _ ewl))⟩, fun D nD => ?_⟩⟩
      have s7 := same_new (o := .tup []) nz
      have s67 := s6.trans s7
      refine lc_map (walk_list (xs := wbs.map V.ref)) wide (by rw [List.length_map, hwbl]) (by rw [List.length_map, hwbl]; omega) (fun c y H => ∃ t k, y = .ref t ∧ RankAt H t (c, k)) nD (fun _ _ _ _ t h => by obtain ⟨u, k, h1, h2⟩ := h; exact ⟨u, k, h1, h2.te t⟩) (fun H8 s8 => SqL.of (s8 _ _ (s67 _ _ ewl))) (fun i c y H8 H9 KY hi s8 hy ky => ?_) (fun H8 ys s8 eD pr => ?_)
      · obtain ⟨rfl, hy⟩ := hy
        obtain ⟨wb, hwb, rfl⟩ := map_at' hy
        obtain ⟨c', hc', ec⟩ := paired_at' pwl hwb
        rw [hi] at hc'
        cases hc'
        have ec9 : TI H9 wb c := s8 _ _ (s67 _ _ ec)
        have et9 := s8 _ _ (s7 _ _ (show (upd H5 To (.dT (asg (intD p1.rk)))) To = some (.dT (asg (intD p1.rk))) from upd_same))
        obtain ⟨i0, hi0⟩ := int_getD (Ps := p1.rk) (c := c) 0
        refine ⟨rfl, .ref wb, rfl, .ref To, rfl, To, rfl, .inr ⟨_, .inl et9⟩, .ref wb, rfl, _, dget_c et9 ec9, ?_⟩
        refine ⟨by show 2 ≤ sizeLine; decide, fun t nt => ky _ _ (same_new nt) ⟨t, i0, rfl, wb, ?_, same_new nt _ _ ec9⟩⟩
        rw [upd_same, hi0]
      · obtain ⟨ts3, rk, rfl, pts3, hkey⟩ := ranks_of2 (f := fun z : Crowd => z) pr
        rw [List.map_id'] at hkey
        have hrl : rk.length = wide.length := by
          have := congrArg List.length hkey
          unfold keysOf at this
          rw [List.length_map] at this
          exact this
        refine ⟨D, _, rfl, SqL.of eD, fun pp oo hoo npp => ⟨by show 3 ≤ sizeLine; decide, fun t nt => ?_⟩⟩
        have u2 := same_new (o := .frz oo (.tup (ts3.map V.ref))) npp
        have u3 := same_new (o := .tup [.ref c1, .ref z, .ref pp]) nt
        have s8u := s8.trans (u2.trans u3)
        have sall := (s5.trans s67).trans s8u
        refine q _ t ⟨p1.cs, [], rk⟩ (b04.trans (SameB.of sall)) ((hf4.same sall).mono (by omega)) ⟨c1, z, pp, upd_same, sall _ _ q1.cs, s8u _ _ upd_same, ts3, plT_te (tsS u3) (PlT.new hoo), paired_imp (fun _ _ h => h.te (tsS (u2.trans u3))) pts3⟩ ⟨o1.cs, Nat.zero_le _, by show rk.length ≤ 1000; omega, fun z hz => ?_⟩
        have : z.1 ∈ keysOf rk := List.mem_map.mpr ⟨z, hz, rfl⟩
        rw [hkey] at this
        exact hwr _ this
    refine eqF w5 ?_
    -- one rank is changed
    obtain ⟨tz, htz⟩ : ∃ tz, ts[at4]? = some tz := ⟨ts[at4], List.getElem?_eq_getElem (by omega)⟩
    obtain ⟨z, hz, cb, hz1, hz2⟩ := paired_at' pts4 htz
    have hzr := o1.rooms z (List.mem_of_getElem? hz)
    refine ⟨.ref x1, rfl, x1, _, 2, _, rfl, rfl, SqT.of q1.top, at_nat (n := 2) rfl, _, rfl, k1, _, _, .ref tz, rfl, rfl, hpl4.sq, at_nat (map_at htz), tz, _, rfl, SqT.of hz1, rfl, _, _, rfl, _, _, rfl, rfl, ?_⟩
    refine ⟨.ref x1, rfl, x1, _, 2, _, rfl, rfl, SqT.of q1.top, at_nat (n := 2) rfl, _, rfl, at4, rfl, sliceR q1.rk fun pa H5 ra s5 hra hsa hla => ?_⟩
    have q15 := q1.te (tsS s5)
    obtain ⟨sh, hsh⟩ : ∃ sh : Int, atI [V.int 1, V.int (-1)] (wy - 6) = some (.int sh) := by
      by_cases w6 : wy = 6
      · exact ⟨1, by rw [w6]; exact at_nat (n := 0) rfl⟩
      · have w7 : wy = 7 := by omega
        exact ⟨-1, by rw [w7]; exact at_nat (n := 1) rfl⟩
    refine ⟨.ref cb, rfl, .int z.2, rfl, 1, rfl, by show 2 ≤ sizeLine; decide, fun W nW => ⟨.int wy, rfl, wy, 6, rfl, rfl, W, _, _, .int sh, rfl, rfl, SqL.of upd_same, hsh, _, _, rfl, rfl, 0, _, rfl, by show 2 ≤ sizeLine; decide, fun tn ntn => ⟨by show 1 ≤ sizeLine; decide, fun pn on hon npn => ?_⟩⟩⟩
    have v1 := same_new (o := .lst [.int 1, .int (-1)]) nW
    have v2 := same_new (o := .tup [.ref cb, .int (if z.2 + sh > 0 then z.2 + sh else 0)]) ntn
    have v3 := same_new (o := .frz on (.tup [.ref tn])) npn
    have v13 := (v1.trans v2).trans v3
    have hmid : RanksAt (upd (upd (upd H5 W (.lst [.int 1, .int (-1)])) tn (.tup [.ref cb, .int (if z.2 + sh > 0 then z.2 + sh else 0)])) pn (.frz on (.tup [.ref tn]))) pn [(z.1, if z.2 + sh > 0 then z.2 + sh else 0)] :=
      ⟨[tn], PlT.new hon, .cons ⟨cb, v3 _ _ upd_same, (s5.trans v13) _ _ hz2⟩ .nil⟩
    refine catR (hra.te (tsS v13)) hmid (by show ra.length + 1 ≤ 100000; omega) fun pm H6 s6 hrm => ?_
    have q16 := q15.te (tsS (v13.trans s6))
    refine ⟨.ref x1, rfl, x1, _, 2, _, rfl, rfl, SqT.of q16.top, at_nat (n := 2) rfl, _, rfl, at4, 1, rfl, rfl, _, rfl, ?_⟩
    show tNoPart _ _ _
    unfold tNoPart
    refine sliceR q16.rk fun pb H7 rb s7 hrb hsb hlb => catR (hrm.te (tsS s7)) hrb (by rw [List.length_append]; show ra.length + 1 + rb.length ≤ 100000; omega) fun pc H8 s8 hrc => ?_
    have s48 := (((s5.trans v13).trans s6).trans s7).trans s8
    have q18 := q1.te (tsS s48)
    refine ⟨.ref x1, rfl, x1, _, 0, _, rfl, rfl, SqT.of q18.top, at_nat (n := 0) rfl, .ref x1, rfl, x1, _, 1, _, rfl, rfl, SqT.of q18.top, at_nat (n := 1) rfl, .ref pc, rfl, by show 3 ≤ sizeLine; decide, fun t nt => ?_⟩
    have s9 := same_new (o := .tup [.ref c1, .ref n1, .ref pc]) nt
    have s49 := s48.trans s9
    refine q _ t ⟨p1.cs, p1.ns, ra ++ [(z.1, if z.2 + sh > 0 then z.2 + sh else 0)] ++ rb⟩ (b04.trans (SameB.of s49)) ((hf4.same s49).mono (by omega)) ⟨c1, n1, pc, upd_same, s49 _ _ q1.cs, s49 _ _ q1.ns, hrc.te (tsS s9)⟩ ⟨o1.cs, o1.ns, by show (ra ++ _ ++ rb).length ≤ 1000; rw [List.length_append, List.length_append]; show ra.length + 1 + rb.length ≤ 1000; omega, fun y hy => ?_⟩
    rcases List.mem_append.mp hy with h | h
    · rcases List.mem_append.mp h with h | h
      · exact o1.rooms y (hsa y h)
      · rw [List.mem_singleton.mp h]
        exact hzr
    · exact o1.rooms y (hsb y h)
end
end KH

namespace KH
open PySem PySem.Spec PyProof.Rows L2 KM
section
variable {P : Program} {w : World} {K : PySem.W.Frag} {mg : Str → Option Value} {base : Heap} {ad : Nat → Addr} {fd : Nat → FuncData}
/-! ### law -/
def spLaw (K : PySem.W.Frag) : Sp := fun vs H Q _ => ∃ (a : Addr) (ns : List Int), vs = [.ref a] ∧ SqL K H a (ns.map V.int) ∧ ns.length ≤ 1000 ∧ ∀ H', Q (.bl true) H'
theorem sqL_same {H H' : Hp} {a : Addr} {xs : List V} (s : Same H H') (h : SqL K H a xs) : SqL K H' a xs := by
  rcases h with (h | ⟨o, h⟩) | h
  · exact .inl (.inl (s _ _ h))
  · exact .inl (.inr ⟨o, s _ _ h⟩)
  · exact .inr h
/-- the papers so far -/
def PapsAt (H : Hp) (L : Addr) (r : Rl) (n : Nat) : Prop := ∃ xs ps, H L = some (.lst (xs.map V.ref)) ∧ Paired (PapAt H) xs ps ∧ ps.length = n ∧ ∀ p ∈ ps, Based r p
theorem PapsAt.same {H H' : Hp} {L : Addr} {r : Rl} {n : Nat} (s : Same H H') (h : PapsAt H L r n) : PapsAt H' L r n := by
  obtain ⟨xs, ps, h1, h2, h3, h4⟩ := h
  exact ⟨xs, ps, s _ _ h1, paired_imp (fun _ _ q => q.te (tsS s)) h2, h3, h4⟩
theorem PapsAt.keep {H H' : Hp} {f L : Addr} {r : Rl} {n : Nat} (b : SameB f H H') (t : Ts H H') (hL : L ≠ f) (h : PapsAt H L r n) : PapsAt H' L r n := by
  obtain ⟨xs, ps, h1, h2, h3, h4⟩ := h
  exact ⟨xs, ps, b _ _ hL h1, paired_imp (fun _ _ q => q.te t) h2, h3, h4⟩
theorem PapsAt.sq {H : Hp} {L : Addr} {r : Rl} {n : Nat} (h : PapsAt H L r n) : ∃ xs, H L = some (.lst xs) ∧ xs.length = n ∧ ∀ (t : Addr) (p : Pap), PapAt H t p → Based r p → PapsAt (upd H L (.lst (xs ++ [V.ref t]))) L r (n + 1) := by
  obtain ⟨xs, ps, h1, h2, h3, h4⟩ := h
  have hl := Paired.length h2
  refine ⟨_, h1, by rw [List.length_map]; omega, fun t p hp hb => ?_⟩
  have tt := Ts.put (o := .lst (xs.map V.ref ++ [V.ref t])) h1 rfl
  refine ⟨xs ++ [t], ps ++ [p], by rw [upd_same, List.map_append]; rfl, paired_snoc (paired_imp (fun _ _ q => q.te tt) h2) (hp.te tt), by rw [List.length_append, List.length_singleton, h3], fun z hz => ?_⟩
  rcases List.mem_append.mp hz with q | q
  · exact h4 z q
  · rw [List.mem_singleton.mp q]; exact hb
theorem sameF {f : Addr} {H H1 H2 : Hp} (s : Same H H1) (n : H f = none) (b : SameB f H1 H2) : Same H H2 := fun x o e => b x o (fun z => by rw [z, n] at e; cases e) (s x o e)
theorem bErr (T : Tx K mg ad fd) : ∃ ds : List Value, Binds K (fd 39) P39 ds ∧ Vals [V.int 1000] ds := by
  obtain ⟨ds, h1, h2⟩ := T.f_err_at.binds1 (ps := P39) 3 0 (by simp) rfl (fun _ _ _ _ _ _ _ us its hu hi => match us, hu, its, hi with | [_, _, _], _, [_], _ => ⟨_, rfl, rfl⟩)
  exact ⟨ds, h2, h1⟩
theorem ok62 (T : Tx K mg ad fd) : FnOk P w K mg base CX0 8 (ad 62) (fd 62) P62 (spLaw K) := by
  have nd := sc62.nd
  have G39 := ok39 (P := P) (w := w) (base := base) T
  have G41 := ok41 (P := P) (w := w) (base := base) T
  have G47 := ok47 (P := P) (w := w) (base := base) T
  have G50 := ok50 (P := P) (w := w) (base := base) T
  have G54 := ok54 (P := P) (w := w) (base := base) T
  have G57 := ok57 (P := P) (w := w) (base := base) T
  have G58 := ok58 (P := P) (w := w) (base := base) T
  have G59 := ok59 (P := P) (w := w) (base := base) T
  have G61 := ok61 (P := P) (w := w) (base := base) T
  obtain ⟨dsE, b_err_at, r_err_at⟩ : ∃ ds : List Value, Binds K (fd 39) P39 ds ∧ Vals [V.int 1000] ds := bErr T
  refine T.f_law.ok sc62 (fun vs H Q E h => ?_) (fun cdv A outer s H vs Q E hr h => ?_)
  · obtain ⟨a, ns, rfl, _⟩ := h
    rfl
  · obtain ⟨sc, ns, rfl, hs, hl, q⟩ := h
    refine ⟨_, PSs.nox (pss_cons (ps_for PassesOwn.never rfl (pi_range1 (by rfl) T.b_range (pa_cons pe_int pa_nil)) (pg_name (i := 1) nd rfl (Or.inl rfl))
    (pss_cons (ps_set (i := 2) nd rfl (Or.inr rfl) (pe_call G41 (hr.mono (by decide)) (by rfl) T.g__law_feed T.f__law_feed.kp T.b__law_feed .nil pass0 (pa_cons (pv 0) (pa_cons (pv 1) pa_nil))))
  (pss_cons (ps_asg (pe_call G47 (hr.mono (by decide)) (by rfl) T.g__law_pair T.f__law_pair.kp T.b__law_pair .nil pass0 (pa_cons (pv 2) (pa_cons pe_int pa_nil))) (pg_tup rfl (pgs_cons (pg_name (i := 3) nd rfl (Or.inr rfl)) (pgs_cons (pg_name (i := 4) nd rfl (Or.inl rfl)) pgs_nil))))
  (pss_cons (ps_set (i := 5) nd rfl (Or.inr rfl) (pe_lst pa_nil))
  (pss_cons (ps_for PassesOwn.never rfl (pi_range1 (by rfl) T.b_range (pa_cons pe_int pa_nil)) (pg_name (i := 6) nd rfl (Or.inl rfl))
    (pss_cons (ps_set (i := 7) nd rfl (Or.inl rfl) (pe_call G50 (hr.mono (by decide)) (by rfl) T.g__law_counts T.f__law_counts.kp T.b__law_counts .nil pass0 (pa_cons (pv 2) (pa_cons (pe_callB (KW.lenS K) (by rfl) T.b_len (by decide +kernel) (pa_cons (pe_ix (KW.ixT K) (pv 3) pe_int (fun _ _ => rfl)) pa_nil)) (pa_cons pe_int pa_nil)))))
  (pss_cons (ps_set (i := 8) nd rfl (Or.inl rfl) (pe_call G39 (hr.mono (by decide)) (by rfl) T.g_err_at T.f_err_at.kp b_err_at r_err_at pass0 (pa_cons (pv 3) (pa_cons (pv 4) (pa_cons (pv 7) pa_nil)))))
  (pss_cons (ps_if (pt_cmpR op_ne (pe_cmpR op_isN (pv 8) pe_non (nomark _)) (pe_cmpR (KW.eqDp K (hu_eq hr)) (pe_call G54 (hr.mono (by decide)) (by rfl) T.g__law_lost T.f__law_lost.kp T.b__law_lost .nil pass0 (pa_cons (pv 3) (pa_cons (pv 4) (pa_cons (pv 7) pa_nil)))) (pe_lst pa_nil) (nomark _)) (nomark _))
    (pss_one (ps_ret pe_bl))
    pss_nil)
  (pss_cons (ps_if (PW.pt (pw_and (pt_cmpR op_notN (pv 8) pe_non (nomark _)) (pw_and1 (pt_not (pt_val (pe_call G58 (hr.mono (by decide)) (by rfl) T.g__law_is_let T.f__law_is_let.kp T.b__law_is_let .nil pass0 (pa_cons (pv 3) (pa_cons (pv 4) (pa_cons (pv 8) pa_nil)))))))))
    (pss_one (ps_ret pe_bl))
    pss_nil)
  (pss_cons (ps_expr (pe_bm PySem.F.plainAttrs_list PySem.F.slot_list_append PySem.F.type_list_append mt_append (pv 5) (pa_cons (pe_call G57 (hr.mono (by decide)) (by rfl) T.g__law_paper T.f__law_paper.kp T.b__law_paper .nil pass0 (pa_cons (pv 3) (pa_cons (pv 4) (pa_cons (pv 7) pa_nil)))) pa_nil)))
  (pss_one (ps_if (pt_cmpR op_notN (pv 8) pe_non (nomark _))
    (pss_one (ps_expr (pe_bm PySem.F.plainAttrs_list PySem.F.slot_list_append PySem.F.type_list_append mt_append (pv 5) (pa_cons (pv 8) pa_nil))))
    pss_nil))))))))
  (pss_one (ps_for PassesOwn.never rfl (pi_list (pe_op op_cat (pv 5) (pe_lc (own := [("_law_j", 10)]) (g := (gName 10)) (tt := tYes) (by rfl) nd (pi_range1 (by rfl) T.b_range (pa_cons pe_int pa_nil)) (blkOk_by (N := N62) (sc := defScope (topS 62)) (by decide +kernel)) (fun _ _ _ _ _ => pg_name (i := 10) nd rfl (Or.inl rfl)) (fun _ _ _ _ _ => pts_nil) (fun _ _ _ _ _ => (pe_call G61 (hr.mono (by decide)) (by rfl) T.g__law_near T.f__law_near.kp T.b__law_near .nil pass0 (pa_cons (pv 2) (pa_cons (pv 3) (pa_cons (pv 5) pa_nil)))))))) (pg_name (i := 9) nd rfl (Or.inl rfl))
    (pss_one (ps_if (PW.pt (pw_and (pt_val (pe_call G58 (hr.mono (by decide)) (by rfl) T.g__law_is_let T.f__law_is_let.kp T.b__law_is_let .nil pass0 (pa_cons (pv 3) (pa_cons (pv 4) (pa_cons (pv 9) pa_nil))))) (pw_and1 (pt_not (pt_val (pe_call G59 (hr.mono (by decide)) (by rfl) T.g__law_holds_so T.f__law_holds_so.kp T.b__law_holds_so .nil pass0 (pa_cons (pv 3) (pa_cons (pv 4) (pa_cons (pv 9) pa_nil)))))))))
    (pss_one (ps_ret pe_bl))
    pss_nil)))))))))
  (pss_one (ps_ret pe_bl))), ?_⟩
    refine ⟨4, rfl, by decide, by decide, ?_⟩
    refine for_it walk_range (fun i σ H1 => ∃ x1 x2 x3 x4 x5 x6 x7 x8 x9 x10, σ = [some (.ref sc), x1, x2, x3, x4, x5, x6, x7, x8, x9, x10] ∧ Same H H1) ⟨_, _, _, _, _, _, _, _, _, _, rfl, Same.refl H⟩ (fun i σ H1 _ _ => trivial) (fun i y σ H1 H2 hi hp hy => ?_) (fun σ H1 hp => q H1)
    obtain ⟨x1, x2, x3, x4, x5, x6, x7, x8, x9, x10, rfl, s1⟩ := hp
    obtain ⟨rfl, rfl⟩ := hy
    show gName 1 (.int (0 + (i : Nat))) _ _ _
    rw [show (0 : Int) + (i : Nat) = (i : Nat) by omega]
    have hi4 : i < 4 := by simpa using hi
    have hs1 : SqL K H2 sc (ns.map V.int) := sqL_same s1 hs
    refine ⟨.ref sc, rfl, vn i, rfl, sc, ns, i, rfl, hs1, hl, by omega, fun H3 f s3 nf hf3 => ?_⟩
    have nf0 := same_free s1 nf
    have m3 := s1.trans s3
    refine ⟨.ref f, rfl, f, 0, rfl, hf3, by decide, fun H4 pt a b r qq b4 hf4 ept hR ho hq hqo hqd => ?_⟩
    have m4 := sameF m3 nf0 b4
    refine ⟨pt, _, rfl, SqT.of ept, rfl, _, _, rfl, _, _, rfl, rfl, ?_⟩
    refine ⟨Nat.zero_le _, fun L nL => ?_⟩
    have nL0 := same_free m4 nL
    have hLf := hf4.ne nL
    have s5 := same_new (o := .lst []) nL
    obtain ⟨ki, hki⟩ : ∃ ki, ki = 0 + 130 := ⟨_, rfl⟩
    rw [← hki] at hf4
    refine ⟨2, rfl, by decide, by decide, ?_⟩
    refine for_it walk_range (fun j σ H5 => ∃ n x6 x7 x8 x9 x10, σ = [some (.ref sc), some (vn i), some (.ref f), some (.ref a), some (.ref b), some (.ref L), x6, x7, x8, x9, x10] ∧ Same H H5 ∧ FeedAt H5 f (ki + 5 * j) ∧ IsRule H5 a r ∧ QAt H5 b qq ∧ PapsAt H5 L r n ∧ j ≤ n ∧ n ≤ 2 * j)
      ⟨0, _, _, _, _, _, rfl, m4.trans s5, hf4.same s5, hR.te (tsS s5), hq.te (tsS s5), ⟨[], [], upd_same, .nil, rfl, fun p hp => by cases hp⟩, Nat.le_refl _, Nat.le_refl _⟩ (fun j σ H5 _ _ => trivial) (fun j y σ H5 H6 hj hp hy => ?_) (fun σ H5 hp => ?_)
    · obtain ⟨n, x6, x7, x8, x9, x10, rfl, m5, hf5, hR5, hq5, hP5, hjn, hnj⟩ := hp
      obtain ⟨rfl, rfl⟩ := hy
      have hj2 : j < 2 := by simpa using hj
      obtain ⟨sa, ma, ya, ms, hR5'⟩ := id hR5
      have ho4 := ho.sorts4
      have ho1 := ho.sorts1
      clear hf4 hR hq ept b4 m4 s5 nL hf3 m3
      refine ⟨.ref f, rfl, .ref a, rfl, a, _, 1, _, rfl, rfl, SqT.of hR5'.top, at_nat (n := 1) rfl, sa, _, rfl, .inr (SqT.of hR5'.starts), f, ki + 5 * j, (r.starts.map vn).length, rfl, hf5, by omega, by rw [List.length_map]; omega, by rw [List.length_map]; omega, fun H3 e cs b3 hf3 ecs hcs => ?_⟩
      rw [List.length_map] at hcs
      have m3 := sameF m5 nf0 b3
      have t3 := hf5.te b3
      have hR3 := hR5.te t3
      have hq3 := hq5.te t3
      have hP3 := hP5.keep b3 t3 hLf
      refine ⟨.ref a, rfl, .ref b, rfl, .ref e, rfl, a, b, e, r, qq, cs, rfl, hR3, ho, hq3, hqo, hqd, ecs, hcs, fun nl H4 s4 => ?_, fun sl H4 t p s4 hp hpo hpc hv hpl => ?_⟩
      · -- none
        refine ⟨.non, rfl, rfl, .ref a, rfl, .ref b, rfl, .ref e, rfl, a, b, e, r, qq, cs, rfl, hR3.te (tsS s4), ho, hq3.te (tsS s4), hqo, hqd, (tsS s4).tup ecs, hcs, fun H5 l lk s5 nl5 hL5 hlk => ⟨Nat.zero_le _, fun Nn nNn => ⟨_, _, dp_crowds (hL5.same (same_new nNn)), dp_none upd_same, shaped_list dInts3 _, shaped_nil, rfl, false, ?_, iteF ?_⟩⟩⟩
        · have hlk0 : lk = [] := List.eq_nil_iff_forall_not_mem.mpr fun x hx => nl ⟨x, (hlk x).mp hx⟩
          rw [eqv_nil, decide_eq_true hlk0]
          rfl
        have s6 := same_new (o := .lst []) nNn
        have sX := (s4.trans s5).trans s6
        have hPX := hP3.same sX
        obtain ⟨ys, eLX, hyl, _⟩ := hPX.sq
        refine ⟨.non, rfl, rfl, false, rfl, iteF ?_⟩
        refine ⟨.ref L, rfl, .inl ⟨rfl, _, SqL.of eLX⟩, .ref a, rfl, .ref b, rfl, .ref e, rfl, a, b, e, r, qq, cs, rfl, hR3.te (tsS sX), ho, hq3.te (tsS sX), hqo, hqd, (tsS sX).tup ecs, hcs, fun H7 t7 p7 s7 hp7 hpo7 hnd7 hne7 hfew7 => ?_⟩
        have hP7 := hP3.same (sX.trans s7)
        obtain ⟨ys7, eL7, hy7, app7⟩ := hP7.sq
        have hba7 : Based r p7 := ⟨hpo7, hnd7, hne7, hfew7⟩
        have P8 := app7 t7 p7 hp7 hba7
        have s37 := sX.trans s7
        have hf8 : FeedAt (upd H7 L (.lst (ys7 ++ [V.ref t7]))) f (ki + 5 * (j + 1)) := ((hf3.same s37).put hLf).mono (by omega)
        have t8 : Ts H3 (upd H7 L (.lst (ys7 ++ [V.ref t7]))) := (tsS s37).trans (Ts.put eL7 rfl)
        have m8 : Same H (upd H7 L (.lst (ys7 ++ [V.ref t7]))) := same_put (m3.trans s37) nL0
        refine ⟨L, _, _, rfl, rfl, eL7, small (by omega), ?_⟩
        refine ⟨.non, rfl, rfl, false, rfl, iteF ⟨n + 1, _, _, _, _, _, rfl, m8, hf8, hR3.te t8, hq3.te t8, P8, by omega, by omega⟩⟩
      · -- some
        refine ⟨.ref t, rfl, rfl, .ref a, rfl, .ref b, rfl, .ref e, rfl, a, b, e, r, qq, cs, rfl, hR3.te (tsS s4), ho, hq3.te (tsS s4), hqo, hqd, (tsS s4).tup ecs, hcs, fun H5 l lk s5 nl5 hL5 hlk => ⟨Nat.zero_le _, fun Nn nNn => ⟨_, _, dp_crowds (hL5.same (same_new nNn)), dp_none upd_same, shaped_list dInts3 _, shaped_nil, rfl, false, ?_, iteF ?_⟩⟩⟩
        · have hlk0 : lk ≠ [] := fun z => by
            obtain ⟨x, hx⟩ := sl
            have := (hlk x).mpr hx
            rw [z] at this
            cases this
          rw [eqv_nil, decide_eq_false hlk0]
          rfl
        have s6 := same_new (o := .lst []) nNn
        have s46 := s5.trans s6
        have s36 := s4.trans s46
        refine ⟨.ref t, rfl, rfl, true, rfl, iteT ⟨.ref a, rfl, .ref b, rfl, .ref t, rfl, a, b, t, r, qq, p, rfl, hR3.te (tsS s36), ho, hq3.te (tsS s36), hqo, hqd, hp.te (tsS s46), hpo, fun _ H6 s6' => ⟨true, rfl, iteF ?_⟩, fun nv => absurd hv nv⟩⟩
        have sX := s36.trans s6'
        have hpX := hp.te (tsS (s46.trans s6'))
        have hPX := hP3.same sX
        obtain ⟨ys, eLX, hyl, _⟩ := hPX.sq
        refine ⟨.ref L, rfl, .inl ⟨rfl, _, SqL.of eLX⟩, .ref a, rfl, .ref b, rfl, .ref e, rfl, a, b, e, r, qq, cs, rfl, hR3.te (tsS sX), ho, hq3.te (tsS sX), hqo, hqd, (tsS sX).tup ecs, hcs, fun H7 t7 p7 s7 hp7 hpo7 hnd7 hne7 hfew7 => ?_⟩
        have hP7 := hP3.same (sX.trans s7)
        obtain ⟨ys7, eL7, hy7, app7⟩ := hP7.sq
        have hba7 : Based r p7 := ⟨hpo7, hnd7, hne7, hfew7⟩
        have P8 := app7 t7 p7 hp7 hba7
        have s37 := sX.trans s7
        have hf8 : FeedAt (upd H7 L (.lst (ys7 ++ [V.ref t7]))) f (ki + 5 * (j + 1)) := ((hf3.same s37).put hLf).mono (by omega)
        have t8 : Ts H3 (upd H7 L (.lst (ys7 ++ [V.ref t7]))) := (tsS s37).trans (Ts.put eL7 rfl)
        have m8 : Same H (upd H7 L (.lst (ys7 ++ [V.ref t7]))) := same_put (m3.trans s37) nL0
        refine ⟨L, _, _, rfl, rfl, eL7, small (by omega), ?_⟩
        obtain ⟨ys8, eL8, hy8, app8⟩ := P8.sq
        have hpne : p.rk ≠ [] := fun z => by
          obtain ⟨c, _, hc⟩ := hv.way
          rw [z] at hc
          cases hc
        have hbat : Based r p := ⟨hpo, hv.ranks.nd, hpne, hpl⟩
        have ht8 := hpX.te ((tsS s7).trans (Ts.put (o := .lst (ys7 ++ [V.ref t7])) eL7 rfl))
        have P9 := app8 t p ht8 hbat
        have t9 := Ts.put (o := .lst (ys8 ++ [V.ref t])) eL8 rfl
        refine ⟨.ref t, rfl, rfl, true, rfl, iteT ⟨.ref L, rfl, .inl ⟨rfl, _, SqL.of eL8⟩, .ref t, rfl, L, _, _, rfl, rfl, eL8, small (by omega), ⟨n + 2, _, _, _, _, _, rfl, same_put m8 nL0, hf8.put hLf, (hR3.te t8).te t9, (hq3.te t8).te t9, P9, by omega, by omega⟩⟩⟩
    · obtain ⟨n, x6, x7, x8, x9, x10, rfl, m5, hf5, hR5, hq5, hP5, hjn, hnj⟩ := hp
      have e2 : (2 : Int).toNat = 2 := rfl
      rw [e2] at hjn hnj hf5
      obtain ⟨xs, ps, eL5, pxs, hpn, hba⟩ := hP5
      have hxl : xs.length = n := by rw [Paired.length pxs, hpn]
      refine ⟨.ref L, rfl, 8, rfl, by decide, by decide, fun D nD => ?_⟩
      have hDf := hf5.ne nD
      refine lc_genm walk_range (List.range 8) (by simp) (by decide) (fun _ y H => ∃ t p, y = .ref t ∧ PapAt H t p ∧ p.Ok r) (fun m H6 => SameB f H5 H6 ∧ FeedAt H6 f (ki + 10 + 5 * m)) (fun _ _ _ _ t h => by obtain ⟨u, p, h1, h2, h3⟩ := h; exact ⟨u, p, h1, h2.te t, h3⟩) ⟨SameB.of (same_new nD), hf5.same (same_new nD)⟩ (fun _ _ _ => trivial) (fun m z y H6 H7 acc KY hm iv eD hy ky => ?_) (fun H6 ys iv eD pr => ?_)
      · obtain ⟨rfl, rfl⟩ := hy
        obtain ⟨b6, hf6⟩ := iv
        have t6 := hf5.te b6
        have hm8 : m < 8 := by have := (List.getElem?_eq_some_iff.mp hm).1; simpa using this
        refine ⟨rfl, .ref f, rfl, .ref a, rfl, .ref L, rfl, f, a, L, ki + 10 + 5 * m, r, xs, ps, rfl, hf6, by omega, hR5.te t6, ho, b6 _ _ hLf eL5, paired_imp (fun _ _ h => h.te t6) pxs, fun z => by rw [z] at hpn; simp at hpn; omega, by omega, hba, fun H8 t p b8 hf8 hp8 hpo8 => ?_⟩
        exact ky _ _ (b8 _ _ hDf eD) (hf6.te b8) ⟨t, p, rfl, hp8, hpo8⟩ ⟨sameB_put (b6.trans b8) nD, hf8.put hDf⟩
      · obtain ⟨b6, hf6⟩ := iv
        have t6 := hf5.te b6
        have hyl : ys.length = 8 := by
          have := Paired.length pr
          rw [List.length_range] at this
          omega
        have eL6 := b6 _ _ hLf eL5
        refine ⟨L, D, _, _, rfl, rfl, eL6, eD, smallL (by rw [List.length_map]; omega), fun Z nZ => ?_⟩
        have s7 := same_new (o := .lst (xs.map V.ref ++ ys)) nZ
        have m7 := (sameF m5 nf0 b6).trans s7
        have t7 := t6.trans (tsS s7)
        have hall : ∀ (v : V), v ∈ xs.map V.ref ++ ys → ∃ t p, v = .ref t ∧ PapAt (upd H6 Z (.lst (xs.map V.ref ++ ys))) t p ∧ p.Ok r := fun v hv => by
          rcases List.mem_append.mp hv with h | h
          · obtain ⟨j, hj⟩ := List.mem_iff_getElem?.mp h
            obtain ⟨x, hx, rfl⟩ := map_at' hj
            obtain ⟨p, hp1, hp2⟩ := paired_at' pxs hx
            exact ⟨x, p, rfl, hp2.te t7, (hba p (List.mem_of_getElem? hp1)).ok⟩
          · obtain ⟨j, hj⟩ := List.mem_iff_getElem?.mp h
            obtain ⟨_, _, u, p, h1, h2, h3⟩ := paired_at pr hj
            exact ⟨u, p, h1, h2.te (tsS s7), h3⟩
        have hR7 := hR5.te t7
        have hq7 := hq5.te t7
        obtain ⟨H7, eH7⟩ : ∃ H7, H7 = upd H6 Z (.lst (xs.map V.ref ++ ys)) := ⟨_, rfl⟩
        have eZ : H7 Z = some (.lst (xs.map V.ref ++ ys)) := by rw [eH7]; exact upd_same
        rw [← eH7] at hall hR7 hq7 m7 ⊢
        refine ⟨Z, rfl, ⟨_, SqL.of eZ⟩, ?_⟩
        refine for_it (walk_list (xs := xs.map V.ref ++ ys)) (fun m σ H8 => ∃ x6 x7 x8 x9 x10, σ = [some (.ref sc), some (vn i), some (.ref f), some (.ref a), some (.ref b), some (.ref L), x6, x7, x8, x9, x10] ∧ Same H7 H8)
          ⟨_, _, _, _, _, rfl, Same.refl H7⟩ (fun m σ H8 _ hp => ?_) (fun m y σ H8 H9 hm hp hy => ?_) (fun σ H8 hp => ?_)
        · obtain ⟨_, _, _, _, _, _, s8⟩ := hp
          exact SqL.of (s8 _ _ eZ)
        · obtain ⟨y6, y7, y8, y9, y10, rfl, s8⟩ := hp
          obtain ⟨rfl, hy⟩ := hy
          obtain ⟨t, p, rfl, hp1, hp2⟩ := hall y (List.mem_of_getElem? hy)
          refine ⟨.ref a, rfl, .ref b, rfl, .ref t, rfl, a, b, t, r, qq, p, rfl, hR7.te (tsS s8), ho, hq7.te (tsS s8), hqo, hqd, hp1.te (tsS s8), hp2, fun hv H10 s10 => ⟨true, rfl, iteT ?_⟩, fun _ H10 s10 => ⟨false, rfl, iteF ⟨_, _, _, _, _, rfl, s8.trans s10⟩⟩⟩
          have s9 := s8.trans s10
          exact ⟨.ref a, rfl, .ref b, rfl, .ref t, rfl, a, b, t, r, qq, p, rfl, hR7.te (tsS s9), ho, hq7.te (tsS s9), hqo, hqd, hp1.te (tsS s9), hp2, hv, fun H11 s11 => ⟨true, rfl, iteF ⟨_, _, _, _, _, rfl, s9.trans s11⟩⟩⟩
        · obtain ⟨y6, y7, y8, y9, y10, rfl, s8⟩ := hp
          exact ⟨_, _, _, _, _, _, _, _, _, _, rfl, m7.trans s8⟩
end
end KH

namespace KH
open PySem PySem.Spec PyProof.Rows L2
/-! the hook: He.hookD with one Bool more -/
def exB (K : PySem.W.Frag) : Bool := match K.lookup (He.ga K "NoPaper") with
  | some ⟨.type "type", _, .cls cd, sl⟩ => (match cd.mro, sl.toList with
    | .ref C' :: bm, [_, _, _, _, some (.builtin n), _] => decide (C' = He.ga K "NoPaper") && (decide (n = "ValueError.__new__") && (!cd.hasDel && (cd.hasDict && PySem.HandSPX.refsVE bm)))
    | _, _ => false)
  | _ => false
def exB2 (K : PySem.W.Frag) : Bool := He.eqO (PySem.W.findIn K (.ref (He.ga K "NoPaper")) "__setattr__") (some (some (.builtin "object.__setattr__"))) &&
  (decide (PySem.W.subIn K (.ref (He.ga K "NoPaper")) (.type "BaseException") = some true) && (decide (PySem.W.typeIn K (.ref (He.ga K "NoPaper")) = some (.type "type")) && (PySem.W.keepIn K (.ref (He.ga K "NoPaper")) &&
  (He.eqO (PySem.W.findIn K (.ref (He.ga K "NoPaper")) "__init__") (some (some (.ref (He.ma K (He.ga K "NoPaper") "__init__")))) && (decide (PySem.W.typeIn K (.ref (He.ma K (He.ga K "NoPaper") "__init__")) = some (.type "function")) &&
  (decide (PySem.W.exmOne K (.ref (He.ga K "NoPaper")) (.ref (He.ga K "NoPaper")) = some true)))))))
abbrev Al2 : Type := Bool × He.AlD
def obs2 (fa : List He.Fa) (fn : List He.DefD) (K : PySem.W.Frag) : Al2 := (exB K && exB2 K, He.obsD fa fn K)
def val2 (fn : List He.DefD) : Al2 := (true, He.valD fn)
def obs2G (n : Nat) (fa : List He.Fa) (fn : List He.DefD) (g : Addr → Option Obj) : Al2 := obs2 fa fn (He.frG g (He.asD g n))
def hook2 (n : Nat) (fa : List He.Fa) (fn : List He.DefD) : PySem.W.Hook where
  α := Al2
  obs := fun s => obs2G n fa fn s.heap.get?
  val := fun _ => val2 fn
  says := fun _ h => ∃ K : PySem.W.Frag, K.In h ∧ obs2 fa fn K = val2 fn
  of := fun _ _ e => ⟨_, He.frG_in, e⟩
  keeps := fun _ _ _ ⟨K, hK, c⟩ k => ⟨K, PySem.W.Frag.In.keeps hK k, c⟩
theorem obs2G_eq {n : Nat} {fa : List He.Fa} {fn : List He.DefD} {g : Addr → Option Obj} {s : Shared} (h : ∀ a, g a = s.heap.get? a) : obs2G n fa fn g = (hook2 n fa fn).obs s := by
  have e : g = s.heap.get? := funext h
  rw [e] <;> rfl
abbrev dF (n : Str) (i : Nat) : He.DefD := ⟨(n, none), n, n, defArgs (topS i), defBody (topS i), defScope (topS i), [], []⟩
def d7 : He.DefD := dF "is_whole" 7
def d8 : He.DefD := dF "is_from" 8
def d9 : He.DefD := dF "is_counts" 9
def d11 : He.DefD := dF "is_crowd" 11
def d12 : He.DefD := dF "begun" 12
def d13 : He.DefD := dF "may_be" 13
def d14 : He.DefD := dF "can" 14
def d15 : He.DefD := dF "crowd_behind" 15
def d16 : He.DefD := dF "is_next" 16
def d17 : He.DefD := dF "met" 17
def d18 : He.DefD := dF "said" 18
def d20 : He.DefD := dF "graph_of" 20
def d21 : He.DefD := dF "row_to" 21
def d22 : He.DefD := dF "ranks_to" 22
def d24 : He.DefD := dF "hands_of" 24
def d25 : He.DefD := dF "holds" 25
def d27 : He.DefD := dF "truth_word" 27
def d28 : He.DefD := dF "gone_through" 28
def d31 : He.DefD := dF "is_number" 31
def d32 : He.DefD := dF "passed_along" 32
def d33 : He.DefD := dF "ask_shape" 33
def d34 : He.DefD := dF "is_ranked" 34
def d35 : He.DefD := dF "ask_ranks" 35
def d36 : He.DefD := dF "ask_ways" 36
def d37 : He.DefD := dF "lets_err" 37
def d39 : He.DefD := ⟨("err_at", none), "err_at", "err_at", defArgs (topS 39), defBody (topS 39), defScope (topS 39), [.int 1000], []⟩
def d41 : He.DefD := dF "_law_feed" 41
def d42 : He.DefD := dF "_law_draw" 42
def d43 : He.DefD := dF "_law_rule" 43
def d44 : He.DefD := dF "_law_question" 44
def d45 : He.DefD := dF "_law_holds" 45
def d46 : He.DefD := dF "_law_made" 46
def d47 : He.DefD := dF "_law_pair" 47
def d48 : He.DefD := dF "_law_steps" 48
def d49 : He.DefD := dF "_law_all" 49
def d50 : He.DefD := dF "_law_counts" 50
def d51 : He.DefD := dF "_law_begun" 51
def d52 : He.DefD := dF "_law_said" 52
def d53 : He.DefD := dF "_law_back" 53
def d54 : He.DefD := dF "_law_lost" 54
def d55 : He.DefD := dF "_law_far" 55
def d56 : He.DefD := dF "_law_way" 56
def d57 : He.DefD := dF "_law_paper" 57
def d58 : He.DefD := dF "_law_is_let" 58
def d59 : He.DefD := dF "_law_holds_so" 59
def d60 : He.DefD := dF "_law_all_crowds" 60
def d61 : He.DefD := dF "_law_near" 61
def d62 : He.DefD := dF "law" 62
def dI : He.DefD := ⟨("NoPaper", some "__init__"), "__init__", "NoPaper.__init__", defArgs (inClass (topS 3) 0), defBody (inClass (topS 3) 0), defScope (inClass (topS 3) 0), [], []⟩
def fnl : List He.DefD := [d7, d8, d9, d11, d12, d13, d14, d15, d16, d17, d18, d20, d21, d22, d24, d25, d27, d28, d31, d32, d33, d34, d35, d36, d37, d39, d41, d42, d43, d44, d45, d46, d47, d48, d49, d50, d51, d52, d53, d54, d55, d56, d57, d58, d59, d60, d61, d62, dI]
def fa1 : List He.Fa := [.glo "is_whole", .glo "is_from", .glo "is_counts", .glo "is_crowd", .glo "begun", .glo "may_be", .glo "can", .glo "crowd_behind", .glo "is_next", .glo "met", .glo "said", .glo "graph_of", .glo "row_to", .glo "ranks_to", .glo "hands_of", .glo "holds", .glo "truth_word", .glo "gone_through", .glo "is_number", .glo "passed_along", .glo "ask_shape", .glo "is_ranked", .glo "ask_ranks", .glo "ask_ways", .glo "lets_err", .glo "err_at", .glo "_law_feed", .glo "_law_draw", .glo "_law_rule", .glo "_law_question", .glo "_law_holds", .glo "_law_made", .glo "_law_pair", .glo "_law_steps"]
def fa2 : List He.Fa := [.glo "_law_all", .glo "_law_counts", .glo "_law_begun", .glo "_law_said", .glo "_law_back", .glo "_law_lost", .glo "_law_far", .glo "_law_way", .glo "_law_paper", .glo "_law_is_let", .glo "_law_holds_so", .glo "_law_all_crowds", .glo "_law_near", .glo "law", .glo "NoPaper", .noat "NoPaper" "word", .noat "NoPaper" "number", .int "MOST_HANDS_rules" 1000000, .int "MOST_HANDS_errchecker" 60, .free "isinstance", .free "int", .free "bool", .free "tuple", .free "len", .free "sum", .free "list", .free "dict", .free "enumerate", .free "range", .free "sorted", .free "max", .free "min", .free "all", .free "any"]
def fal : List He.Fa := fa1 ++ fa2
def lo1 : List PySem.Str := ["PassError", "NoMeeting", "NoPaper", "TooMany", "is_whole", "is_from", "is_counts", "is_crowd", "begun", "may_be", "can", "crowd_behind", "is_next", "met", "said", "graph_of", "row_to", "ranks_to", "hands_of", "holds", "truth_word", "gone_through", "is_number", "passed_along", "ask_shape", "is_ranked", "ask_ranks", "ask_ways", "lets_err", "err_at"]
def lo2 : List PySem.Str := ["_law_feed", "_law_draw", "_law_rule", "_law_question", "_law_holds", "_law_made", "_law_pair", "_law_steps", "_law_all", "_law_counts", "_law_begun", "_law_said", "_law_back", "_law_lost", "_law_far", "_law_way", "_law_paper", "_law_is_let", "_law_holds_so", "_law_all_crowds", "_law_near", "MOST_HANDS_rules", "MOST_HANDS_errchecker"]
def los : List PySem.Str := lo1 ++ lo2
abbrev R : PySem.W.OpenRow := PySem.W.OpenLaw.row PySem.Challenge.rw_passersby_k37_whole_err_papers_hold
abbrev hk : PySem.W.Hook := hook2 5 fal fnl
def ob (s : PySem.W.SharedT) : Al2 := obs2G 5 fal fnl (HandSHeadRun.getT s)
theorem ob_eq (s : PySem.W.SharedT) : ob s = hk.obs s.abs := obs2G_eq (HandSHeadRun.getT_eq s)
theorem run (w : World) : HandSHeadRun.RunEq R (PySem.W.view R.prog [62]) hk ob 4000 los w := by
  intro os
  kernel_rfl
theorem exB_ok {K : PySem.W.Frag} (h : exB K = true) : ∃ nm q N bs bm sn sub ab col dd k0 k1 k2 k3 k5, K.lookup (He.ga K "NoPaper") = some (excClassObj nm q (He.ga K "NoPaper") N bs bm true sn sub ab col dd k0 k1 k2 k3 k5 "ValueError.__new__") ∧ PySem.HandSPX.refsVE bm = true := by
  unfold exB at h
  split at h
  · rename_i dd cd sl hl
    split at h
    · rename_i C' bm k0 k1 k2 k3 n k5 hmro hsl
      simp only [Bool.and_eq_true, decide_eq_true_eq, Bool.not_eq_true'] at h
      obtain ⟨h1, h2, h3, h4, h5⟩ := h
      obtain ⟨nm, bs, mro, N, q, hd, sn, sub, ab, col, hdel⟩ := cd
      simp only at hmro h3 h4
      subst h3 h4 hmro h1 h2
      refine ⟨nm, q, N, bs, bm, sn, sub, ab, col, dd, k0, k1, k2, k3, k5, ?_, h5⟩
      rw [hl]
      obtain ⟨sl⟩ := sl
      have : sl = [k0, k1, k2, k3, some (.builtin "ValueError.__new__"), k5] := hsl
      subst this
      rfl
    · cases h
  · cases h
theorem band {a b : Bool} (h : (a && b) = true) : a = true ∧ b = true := by
  cases a <;> cases b <;> first | exact ⟨rfl, rfl⟩ | cases h
def adF (K : PySem.W.Frag) (i : Nat) : Addr := match i with
  | 7 => He.ga K "is_whole"
  | 8 => He.ga K "is_from"
  | 9 => He.ga K "is_counts"
  | 11 => He.ga K "is_crowd"
  | 12 => He.ga K "begun"
  | 13 => He.ga K "may_be"
  | 14 => He.ga K "can"
  | 15 => He.ga K "crowd_behind"
  | 16 => He.ga K "is_next"
  | 17 => He.ga K "met"
  | 18 => He.ga K "said"
  | 20 => He.ga K "graph_of"
  | 21 => He.ga K "row_to"
  | 22 => He.ga K "ranks_to"
  | 24 => He.ga K "hands_of"
  | 25 => He.ga K "holds"
  | 27 => He.ga K "truth_word"
  | 28 => He.ga K "gone_through"
  | 31 => He.ga K "is_number"
  | 32 => He.ga K "passed_along"
  | 33 => He.ga K "ask_shape"
  | 34 => He.ga K "is_ranked"
  | 35 => He.ga K "ask_ranks"
  | 36 => He.ga K "ask_ways"
  | 37 => He.ga K "lets_err"
  | 39 => He.ga K "err_at"
  | 41 => He.ga K "_law_feed"
  | 42 => He.ga K "_law_draw"
  | 43 => He.ga K "_law_rule"
  | 44 => He.ga K "_law_question"
  | 45 => He.ga K "_law_holds"
  | 46 => He.ga K "_law_made"
  | 47 => He.ga K "_law_pair"
  | 48 => He.ga K "_law_steps"
  | 49 => He.ga K "_law_all"
  | 50 => He.ga K "_law_counts"
  | 51 => He.ga K "_law_begun"
  | 52 => He.ga K "_law_said"
  | 53 => He.ga K "_law_back"
  | 54 => He.ga K "_law_lost"
  | 55 => He.ga K "_law_far"
  | 56 => He.ga K "_law_way"
  | 57 => He.ga K "_law_paper"
  | 58 => He.ga K "_law_is_let"
  | 59 => He.ga K "_law_holds_so"
  | 60 => He.ga K "_law_all_crowds"
  | 61 => He.ga K "_law_near"
  | 62 => He.ga K "law"
  | 3 => He.ga K "NoPaper"
  | 1003 => He.ma K (He.ga K "NoPaper") "__init__"
  | _ => 0
theorem tx_of {K : PySem.W.Frag} {h : Heap} {mg : Str → Option Value} (X : K.In h) (G : h.Ns mainGlobals mg) (c0 : obs2 fal fnl K = val2 fnl) : ∃ fd : Nat → FuncData, Tx K mg (adF K) fd := by
  have cb : (exB K && exB2 K) = true := congrArg Prod.fst c0
  have c : He.SaysD fal fnl K := congrArg Prod.snd c0
  obtain ⟨e1, e2⟩ := band cb
  obtain ⟨f1, e2⟩ := band e2
  obtain ⟨f2, e2⟩ := band e2
  obtain ⟨f3, e2⟩ := band e2
  obtain ⟨f4, e2⟩ := band e2
  obtain ⟨f5, e2⟩ := band e2
  obtain ⟨f6, f7⟩ := band e2
  obtain ⟨fd7, F7⟩ := c.def_ 0 (d := d7) rfl
  obtain ⟨fd8, F8⟩ := c.def_ 1 (d := d8) rfl
  obtain ⟨fd9, F9⟩ := c.def_ 2 (d := d9) rfl
  obtain ⟨fd11, F11⟩ := c.def_ 3 (d := d11) rfl
  obtain ⟨fd12, F12⟩ := c.def_ 4 (d := d12) rfl
  obtain ⟨fd13, F13⟩ := c.def_ 5 (d := d13) rfl
  obtain ⟨fd14, F14⟩ := c.def_ 6 (d := d14) rfl
  obtain ⟨fd15, F15⟩ := c.def_ 7 (d := d15) rfl
  obtain ⟨fd16, F16⟩ := c.def_ 8 (d := d16) rfl
  obtain ⟨fd17, F17⟩ := c.def_ 9 (d := d17) rfl
  obtain ⟨fd18, F18⟩ := c.def_ 10 (d := d18) rfl
  obtain ⟨fd20, F20⟩ := c.def_ 11 (d := d20) rfl
  obtain ⟨fd21, F21⟩ := c.def_ 12 (d := d21) rfl
  obtain ⟨fd22, F22⟩ := c.def_ 13 (d := d22) rfl
  obtain ⟨fd24, F24⟩ := c.def_ 14 (d := d24) rfl
  obtain ⟨fd25, F25⟩ := c.def_ 15 (d := d25) rfl
  obtain ⟨fd27, F27⟩ := c.def_ 16 (d := d27) rfl
  obtain ⟨fd28, F28⟩ := c.def_ 17 (d := d28) rfl
  obtain ⟨fd31, F31⟩ := c.def_ 18 (d := d31) rfl
  obtain ⟨fd32, F32⟩ := c.def_ 19 (d := d32) rfl
  obtain ⟨fd33, F33⟩ := c.def_ 20 (d := d33) rfl
  obtain ⟨fd34, F34⟩ := c.def_ 21 (d := d34) rfl
  obtain ⟨fd35, F35⟩ := c.def_ 22 (d := d35) rfl
  obtain ⟨fd36, F36⟩ := c.def_ 23 (d := d36) rfl
  obtain ⟨fd37, F37⟩ := c.def_ 24 (d := d37) rfl
  obtain ⟨fd39, F39⟩ := c.def_ 25 (d := d39) rfl
  obtain ⟨fd41, F41⟩ := c.def_ 26 (d := d41) rfl
  obtain ⟨fd42, F42⟩ := c.def_ 27 (d := d42) rfl
  obtain ⟨fd43, F43⟩ := c.def_ 28 (d := d43) rfl
  obtain ⟨fd44, F44⟩ := c.def_ 29 (d := d44) rfl
  obtain ⟨fd45, F45⟩ := c.def_ 30 (d := d45) rfl
  obtain ⟨fd46, F46⟩ := c.def_ 31 (d := d46) rfl
  obtain ⟨fd47, F47⟩ := c.def_ 32 (d := d47) rfl
  obtain ⟨fd48, F48⟩ := c.def_ 33 (d := d48) rfl
  obtain ⟨fd49, F49⟩ := c.def_ 34 (d := d49) rfl
  obtain ⟨fd50, F50⟩ := c.def_ 35 (d := d50) rfl
  obtain ⟨fd51, F51⟩ := c.def_ 36 (d := d51) rfl
  obtain ⟨fd52, F52⟩ := c.def_ 37 (d := d52) rfl
  obtain ⟨fd53, F53⟩ := c.def_ 38 (d := d53) rfl
  obtain ⟨fd54, F54⟩ := c.def_ 39 (d := d54) rfl
  obtain ⟨fd55, F55⟩ := c.def_ 40 (d := d55) rfl
  obtain ⟨fd56, F56⟩ := c.def_ 41 (d := d56) rfl
  obtain ⟨fd57, F57⟩ := c.def_ 42 (d := d57) rfl
  obtain ⟨fd58, F58⟩ := c.def_ 43 (d := d58) rfl
  obtain ⟨fd59, F59⟩ := c.def_ 44 (d := d59) rfl
  obtain ⟨fd60, F60⟩ := c.def_ 45 (d := d60) rfl
  obtain ⟨fd61, F61⟩ := c.def_ 46 (d := d61) rfl
  obtain ⟨fd62, F62⟩ := c.def_ 47 (d := d62) rfl
  obtain ⟨fdI, FI⟩ := c.def_ 48 (d := dI) rfl
  refine ⟨fun i => match i with
    | 7 => fd7
    | 8 => fd8
    | 9 => fd9
    | 11 => fd11
    | 12 => fd12
    | 13 => fd13
    | 14 => fd14
    | 15 => fd15
    | 16 => fd16
    | 17 => fd17
    | 18 => fd18
    | 20 => fd20
    | 21 => fd21
    | 22 => fd22
    | 24 => fd24
    | 25 => fd25
    | 27 => fd27
    | 28 => fd28
    | 31 => fd31
    | 32 => fd32
    | 33 => fd33
    | 34 => fd34
    | 35 => fd35
    | 36 => fd36
    | 37 => fd37
    | 39 => fd39
    | 41 => fd41
    | 42 => fd42
    | 43 => fd43
    | 44 => fd44
    | 45 => fd45
    | 46 => fd46
    | 47 => fd47
    | 48 => fd48
    | 49 => fd49
    | 50 => fd50
    | 51 => fd51
    | 52 => fd52
    | 53 => fd53
    | 54 => fd54
    | 55 => fd55
    | 56 => fd56
    | 57 => fd57
    | 58 => fd58
    | 59 => fd59
    | 60 => fd60
    | 61 => fd61
    | 62 => fd62
    | _ => fdI, {
    f_is_whole := F7
    g_is_whole := He.glo_ok X G (c.fact 0 (f := .glo "is_whole") rfl)
    f_is_from := F8
    g_is_from := He.glo_ok X G (c.fact 1 (f := .glo "is_from") rfl)
    f_is_counts := F9
    g_is_counts := He.glo_ok X G (c.fact 2 (f := .glo "is_counts") rfl)
    f_is_crowd := F11
    g_is_crowd := He.glo_ok X G (c.fact 3 (f := .glo "is_crowd") rfl)
    f_begun := F12
    g_begun := He.glo_ok X G (c.fact 4 (f := .glo "begun") rfl)
    f_may_be := F13
    g_may_be := He.glo_ok X G (c.fact 5 (f := .glo "may_be") rfl)
    f_can := F14
    g_can := He.glo_ok X G (c.fact 6 (f := .glo "can") rfl)
    f_crowd_behind := F15
    g_crowd_behind := He.glo_ok X G (c.fact 7 (f := .glo "crowd_behind") rfl)
    f_is_next := F16
    g_is_next := He.glo_ok X G (c.fact 8 (f := .glo "is_next") rfl)
    f_met := F17
    g_met := He.glo_ok X G (c.fact 9 (f := .glo "met") rfl)
    f_said := F18
    g_said := He.glo_ok X G (c.fact 10 (f := .glo "said") rfl)
    f_graph_of := F20
    g_graph_of := He.glo_ok X G (c.fact 11 (f := .glo "graph_of") rfl)
    f_row_to := F21
    g_row_to := He.glo_ok X G (c.fact 12 (f := .glo "row_to") rfl)
    f_ranks_to := F22
    g_ranks_to := He.glo_ok X G (c.fact 13 (f := .glo "ranks_to") rfl)
    f_hands_of := F24
    g_hands_of := He.glo_ok X G (c.fact 14 (f := .glo "hands_of") rfl)
    f_holds := F25
    g_holds := He.glo_ok X G (c.fact 15 (f := .glo "holds") rfl)
    f_truth_word := F27
    g_truth_word := He.glo_ok X G (c.fact 16 (f := .glo "truth_word") rfl)
    f_gone_through := F28
    g_gone_through := He.glo_ok X G (c.fact 17 (f := .glo "gone_through") rfl)
    f_is_number := F31
    g_is_number := He.glo_ok X G (c.fact 18 (f := .glo "is_number") rfl)
    f_passed_along := F32
    g_passed_along := He.glo_ok X G (c.fact 19 (f := .glo "passed_along") rfl)
    f_ask_shape := F33
    g_ask_shape := He.glo_ok X G (c.fact 20 (f := .glo "ask_shape") rfl)
    f_is_ranked := F34
    g_is_ranked := He.glo_ok X G (c.fact 21 (f := .glo "is_ranked") rfl)
    f_ask_ranks := F35
    g_ask_ranks := He.glo_ok X G (c.fact 22 (f := .glo "ask_ranks") rfl)
    f_ask_ways := F36
    g_ask_ways := He.glo_ok X G (c.fact 23 (f := .glo "ask_ways") rfl)
    f_lets_err := F37
    g_lets_err := He.glo_ok X G (c.fact 24 (f := .glo "lets_err") rfl)
    f_err_at := F39
    g_err_at := He.glo_ok X G (c.fact 25 (f := .glo "err_at") rfl)
    f__law_feed := F41
    g__law_feed := He.glo_ok X G (c.fact 26 (f := .glo "_law_feed") rfl)
    f__law_draw := F42
    g__law_draw := He.glo_ok X G (c.fact 27 (f := .glo "_law_draw") rfl)
    f__law_rule := F43
    g__law_rule := He.glo_ok X G (c.fact 28 (f := .glo "_law_rule") rfl)
    f__law_question := F44
    g__law_question := He.glo_ok X G (c.fact 29 (f := .glo "_law_question") rfl)
    f__law_holds := F45
    g__law_holds := He.glo_ok X G (c.fact 30 (f := .glo "_law_holds") rfl)
    f__law_made := F46
    g__law_made := He.glo_ok X G (c.fact 31 (f := .glo "_law_made") rfl)
    f__law_pair := F47
    g__law_pair := He.glo_ok X G (c.fact 32 (f := .glo "_law_pair") rfl)
    f__law_steps := F48
    g__law_steps := He.glo_ok X G (c.fact 33 (f := .glo "_law_steps") rfl)
    f__law_all := F49
    g__law_all := He.glo_ok X G (c.fact 34 (f := .glo "_law_all") rfl)
    f__law_counts := F50
    g__law_counts := He.glo_ok X G (c.fact 35 (f := .glo "_law_counts") rfl)
    f__law_begun := F51
    g__law_begun := He.glo_ok X G (c.fact 36 (f := .glo "_law_begun") rfl)
    f__law_said := F52
    g__law_said := He.glo_ok X G (c.fact 37 (f := .glo "_law_said") rfl)
    f__law_back := F53
    g__law_back := He.glo_ok X G (c.fact 38 (f := .glo "_law_back") rfl)
    f__law_lost := F54
    g__law_lost := He.glo_ok X G (c.fact 39 (f := .glo "_law_lost") rfl)
    f__law_far := F55
    g__law_far := He.glo_ok X G (c.fact 40 (f := .glo "_law_far") rfl)
    f__law_way := F56
    g__law_way := He.glo_ok X G (c.fact 41 (f := .glo "_law_way") rfl)
    f__law_paper := F57
    g__law_paper := He.glo_ok X G (c.fact 42 (f := .glo "_law_paper") rfl)
    f__law_is_let := F58
    g__law_is_let := He.glo_ok X G (c.fact 43 (f := .glo "_law_is_let") rfl)
    f__law_holds_so := F59
    g__law_holds_so := He.glo_ok X G (c.fact 44 (f := .glo "_law_holds_so") rfl)
    f__law_all_crowds := F60
    g__law_all_crowds := He.glo_ok X G (c.fact 45 (f := .glo "_law_all_crowds") rfl)
    f__law_near := F61
    g__law_near := He.glo_ok X G (c.fact 46 (f := .glo "_law_near") rfl)
    f_law := F62
    g_law := He.glo_ok X G (c.fact 47 (f := .glo "law") rfl)
    f_init := FI
    g_NoPaper := He.glo_ok X G (c.fact 48 (f := .glo "NoPaper") rfl)
    exT := ⟨exB_ok e1, He.eqO_ok f1, of_decide_eq_true f2, of_decide_eq_true f3, f4⟩
    exI := He.eqO_ok f5
    exF := of_decide_eq_true f6
    exM := of_decide_eq_true f7
    exW := He.noat_ok (c.fact 49 (f := .noat "NoPaper" "word") rfl)
    exN := He.noat_ok (c.fact 50 (f := .noat "NoPaper" "number") rfl)
    m_MOST_HANDS_rules := He.int_ok X G (c.fact 51 (f := .int "MOST_HANDS_rules" 1000000) rfl)
    m_MOST_HANDS_errchecker := He.int_ok X G (c.fact 52 (f := .int "MOST_HANDS_errchecker" 60) rfl)
    b_isinstance := He.free_ok X G (c.fact 53 (f := .free "isinstance") rfl)
    b_int := He.free_ok X G (c.fact 54 (f := .free "int") rfl)
    b_bool := He.free_ok X G (c.fact 55 (f := .free "bool") rfl)
    b_tuple := He.free_ok X G (c.fact 56 (f := .free "tuple") rfl)
    b_len := He.free_ok X G (c.fact 57 (f := .free "len") rfl)
    b_sum := He.free_ok X G (c.fact 58 (f := .free "sum") rfl)
    b_list := He.free_ok X G (c.fact 59 (f := .free "list") rfl)
    b_dict := He.free_ok X G (c.fact 60 (f := .free "dict") rfl)
    b_enumerate := He.free_ok X G (c.fact 61 (f := .free "enumerate") rfl)
    b_range := He.free_ok X G (c.fact 62 (f := .free "range") rfl)
    b_sorted := He.free_ok X G (c.fact 63 (f := .free "sorted") rfl)
    b_max := He.free_ok X G (c.fact 64 (f := .free "max") rfl)
    b_min := He.free_ok X G (c.fact 65 (f := .free "min") rfl)
    b_all := He.free_ok X G (c.fact 66 (f := .free "all") rfl)
    b_any := He.free_ok X G (c.fact 67 (f := .free "any") rfl)
  }⟩
theorem facts {P : Program} {w : World} {K : PySem.W.Frag} {h : Heap} {mg : Str → Option Value} {f : Addr} (X : K.In h) (G : h.Ns mainGlobals mg) (hfa : mg ("law" : Str) = some (.ref f)) (c : obs2 fal fnl K = val2 fnl) :
    ∃ fd : FuncData, (∀ (s : Shared) (v : Value), BindsTo s fd ⟨[v], []⟩ [("_law_script", v)]) ∧ ∀ base : Heap, K.In base → base.Ns mainGlobals mg → FnOk P w K mg base CX0 8 f fd ["_law_script"] (spLaw K) := by
  obtain ⟨fd, T⟩ := tx_of X G c
  have e := hfa.symm.trans T.g_law
  cases e
  have b := FunD.bindsA (ps := ["_law_script"]) T.f_law fun _ _ _ _ _ _ us hl => match us, hl with | [_], _ => rfl
  exact ⟨fd 62, fun s v => b s [v] rfl, fun base _ _ => ok62 T⟩
end KH
open PySem PySem.W PySem.Calls PyProof.Rows
theorem PySem.Challenge.cw_passersby_k37_whole_err_papers_hold_holds : PySem.Challenge.rw_passersby_k37_whole_err_papers_hold.Holds := by
  w_on; o_law
  refine HandSHeadRun.head_any (r := OpenLaw.row PySem.Challenge.rw_passersby_k37_whole_err_papers_hold) (q := view (OpenLaw.row PySem.Challenge.rw_passersby_k37_whole_err_papers_hold).prog [62]) (H := KH.hk) (ob := KH.ob) (M := 4000) (loose := KH.los) (d := HandSHeadRun.topDef (OpenLaw.row PySem.Challenge.rw_passersby_k37_whole_err_papers_hold).prog 62) (kwd := []) KH.ob_eq
    (by kernel_rfl) (fun s => by kernel_rfl) KH.run (by kernel_rfl) (by kernel_rfl) (by kernel_rfl) (by rfl) (by first | assumption | decide +kernel) (by decide +kernel) ⟨rfl, rfl, rfl, rfl, rfl, by decide +kernel⟩ ?hw ?hc
  case hw => w_witness2
  case hc =>
    refine L2.walk_ofE (l := PySem.Challenge.rw_passersby_k37_whole_err_papers_hold) (n := 63) (k := 8) (x := "_law_script") (CX := L2.CX0) rfl (by decide) (by kernel_rfl) ⟨rfl, by decide, by decide⟩ ?F (fun _ _ _ _ z => z)
    intro w mg fa h Y G hmg0
    obtain ⟨K, KX, c⟩ := Y
    have hmg : mg ("law" : PySem.Str) = some (.ref fa) := by
      have e : (HandSHeadRun.topDef (OpenLaw.row PySem.Challenge.rw_passersby_k37_whole_err_papers_hold).prog 62).name = ("law" : PySem.Str) := by kernel_rfl
      rw [← e]
      exact hmg0
    obtain ⟨fd, hb, hF⟩ := KH.facts (P := (PySem.Challenge.rw_passersby_k37_whole_err_papers_hold).prog) (w := w) KX G hmg c
    exact ⟨K, fd, KH.spLaw K, KX, hb, fun H a ns hl _ hS => ⟨a, ns, rfl, hS, Nat.le_trans hl (by decide), fun _ => rfl⟩, hF⟩
