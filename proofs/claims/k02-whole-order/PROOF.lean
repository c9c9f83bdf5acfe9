import PyProof.Rows.All
import Wide.All
import OpenK.AllK
import Wide.FinOn
import HandS.ForMost
import HandS.IsInst
import HandS.TupAny
import HandS.TupMul
import HandS.TupSets
import HandS.Style
import HandS.Flow
import HandS.Zip
import KE.SortData
import HandS.Walk
import PySem.Challenge.RW_newestfit_k02_whole_order_and_steps_of_v
set_option Elab.async false
set_option linter.all false
set_option maxRecDepth 100000
set_option maxHeartbeats 4000000
namespace Nf
open PySem PySem.Spec PyProof.Rows L2
/-- a VERSION's four numbers -/
structure Ver where
  a : Int
  b : Int
  c : Int
  d : Int
deriving DecidableEq

namespace Ver
def l (v : Ver) : List Int := [v.a, v.b, v.c, v.d]
/-- a VERSION as the document has it -/
structure Ok (v : Ver) : Prop where
  a0 : 0 ≤ v.a
  b0 : 0 ≤ v.b
  c0 : 0 ≤ v.c
  d9 : -9 ≤ v.d
  d0 : v.d ≤ 0
/-- .. with its numbers below 500 -/
structure Sm (v : Ver) : Prop where
  ok : v.Ok
  a1 : v.a < 500
  b1 : v.b < 500
  c1 : v.c < 500
def rank (v : Ver) : Int := 10 * v.c + v.d + 9
def next (v : Ver) : Ver := if v.d < 0 then ⟨v.a, v.b, v.c, v.d + 1⟩ else ⟨v.a, v.b, v.c + 1, -9⟩
def on (v : Ver) (m : Int) : Option Ver := if v.rank + m < 0 then none else some ⟨v.a, v.b, (v.rank + m) / 10, (v.rank + m) % 10 - 9⟩
/-- the one ahead -/
def ahead (v : Ver) : Option Ver := if -9 < v.d then some ⟨v.a, v.b, v.c, v.d - 1⟩ else if 0 < v.c then some ⟨v.a, v.b, v.c - 1, 0⟩ else none

theorem ext4 {v w : Ver} (h1 : v.a = w.a) (h2 : v.b = w.b) (h3 : v.c = w.c) (h4 : v.d = w.d) : v = w := by
  cases v; cases w; simp_all
theorem l_inj {v w : Ver} (h : v.l = w.l) : v = w := by
  cases v; cases w
  simp only [l, List.cons.injEq, and_true] at h
  simp_all

theorem next_ok {v : Ver} (h : v.Ok) : v.next.Ok := by
  obtain ⟨h1, h2, h3, h4, h5⟩ := h
  unfold next
  split <;> constructor <;> simp only <;> omega
theorem ahead_ok {v w : Ver} (h : v.Ok) (e : v.ahead = some w) : w.Ok := by
  obtain ⟨h1, h2, h3, h4, h5⟩ := h
  unfold ahead at e
  split at e
  · cases e; constructor <;> simp only <;> omega
  · split at e
    · cases e; constructor <;> simp only <;> omega
    · cases e
theorem rank_next {v : Ver} (h : v.Ok) : v.next.rank = v.rank + 1 := by
  obtain ⟨h1, h2, h3, h4, h5⟩ := h
  unfold next rank
  split <;> simp only <;> omega
theorem on_one {v : Ver} (h : v.Ok) : v.on 1 = some v.next := by
  obtain ⟨h1, h2, h3, h4, h5⟩ := h
  unfold on next rank
  rw [if_neg (by omega)]
  split <;> (congr 1; apply ext4 <;> simp only <;> omega)
theorem on_zero {v : Ver} (h : v.Ok) : v.on 0 = some v := by
  obtain ⟨h1, h2, h3, h4, h5⟩ := h
  unfold on rank
  rw [if_neg (by omega)]
  congr 1; apply ext4 <;> simp only <;> omega
theorem on_back {v : Ver} (h : v.Ok) : v.on (-1) = v.ahead := by
  obtain ⟨h1, h2, h3, h4, h5⟩ := h
  unfold on ahead rank
  by_cases q : -9 < v.d
  · rw [if_neg (by omega), if_pos q]
    congr 1; apply ext4 <;> simp only <;> omega
  · rw [if_neg q]
    by_cases r : 0 < v.c
    · rw [if_neg (by omega), if_pos r]
      congr 1; apply ext4 <;> simp only <;> omega
    · rw [if_pos (by omega), if_neg r]
theorem on_rank {v w : Ver} {m : Int} (e : v.on m = some w) : w.rank = v.rank + m ∧ w.a = v.a ∧ w.b = v.b := by
  unfold on at e
  split at e
  · cases e
  · cases e
    refine ⟨?_, rfl, rfl⟩
    show 10 * ((v.rank + m) / 10) + ((v.rank + m) % 10 - 9) + 9 = v.rank + m
    omega
theorem on_okk {v w : Ver} {m : Int} (h : v.Ok) (e : v.on m = some w) : w.Ok := by
  unfold on at e
  split at e
  · cases e
  · cases e
    obtain ⟨h1, h2, h3, h4, h5⟩ := h
    constructor <;> simp only <;> omega
theorem on_add {v w : Ver} {m n : Int} (e : v.on m = some w) : w.on n = v.on (m + n) := by
  obtain ⟨r, ea, eb⟩ := on_rank e
  unfold on
  rw [r, ea, eb, Int.add_assoc]
theorem eq_of_rank {v w : Ver} (hv : v.Ok) (hw : w.Ok) (ea : v.a = w.a) (eb : v.b = w.b) (e : v.rank = w.rank) : v = w := by
  obtain ⟨h1, h2, h3, h4, h5⟩ := hv
  obtain ⟨k1, k2, k3, k4, k5⟩ := hw
  unfold rank at e
  apply ext4 <;> omega
theorem rank_nn {v : Ver} (h : v.Ok) : 0 ≤ v.rank := by
  obtain ⟨h1, h2, h3, h4, h5⟩ := h
  unfold rank; omega

/-- one step of the law's own walk -/
def step (up : Bool) : Option Ver → Option Ver
  | none => none
  | some v => if up then some v.next else v.ahead
def walk (up : Bool) (v : Ver) : Nat → Option Ver
  | 0 => some v
  | n + 1 => step up (walk up v n)
theorem walk_ok {up : Bool} {v w : Ver} (h : v.Ok) : ∀ {n : Nat}, walk up v n = some w → w.Ok
  | 0, e => by cases e; exact h
  | n + 1, e => by
    cases q : walk up v n with
    | none => rw [walk, q] at e; cases e
    | some u =>
      have hu := walk_ok h q
      rw [walk, q] at e
      cases up with
      | true => cases e; exact next_ok hu
      | false => exact ahead_ok hu e
theorem walk_on {v : Ver} (h : v.Ok) (up : Bool) : ∀ n : Nat, walk up v n = v.on (if up then (n : Int) else -(n : Int))
  | 0 => by
    have e : (if up = true then ((0 : Nat) : Int) else -((0 : Nat) : Int)) = 0 := by cases up <;> rfl
    rw [e, on_zero h]; rfl
  | n + 1 => by
    have ih := walk_on h up n
    rw [walk]
    cases up with
    | true =>
      simp only [if_true] at ih ⊢
      cases q : walk true v n with
      | none =>
        rw [q] at ih
        have r := rank_nn h
        unfold on at ih
        rw [if_neg (by omega)] at ih
        cases ih
      | some u =>
        rw [q] at ih
        have hu := walk_ok h q
        show some u.next = _
        rw [← on_one hu, on_add ih.symm]
        congr 1
    | false =>
      simp only [Bool.false_eq_true, if_false] at ih ⊢
      cases q : walk false v n with
      | none =>
        rw [q] at ih
        unfold on at ih ⊢
        split at ih
        · rw [if_pos (by omega)]; rfl
        · cases ih
      | some u =>
        rw [q] at ih
        have hu := walk_ok h q
        show u.ahead = _
        rw [← on_back hu, on_add ih.symm]
        congr 1
        omega

/-! ### the order -/
/-- the second is newer, at the first unlike number -/
def newer (v w : Ver) : Bool :=
  if v.a ≠ w.a then decide (v.a < w.a) else if v.b ≠ w.b then decide (v.b < w.b) else if v.c ≠ w.c then decide (v.c < w.c) else decide (v.d < w.d)
/-- one number for the order -/
def key (v : Ver) : Int := ((v.a * 1000 + v.b) * 1000 + v.c) * 1000 + v.d
theorem newer_key {v w : Ver} (hv : v.Sm) (hw : w.Sm) : newer v w = decide (v.key < w.key) := by
  obtain ⟨⟨h1, h2, h3, h4, h5⟩, h6, h7, h8⟩ := hv
  obtain ⟨⟨k1, k2, k3, k4, k5⟩, k6, k7, k8⟩ := hw
  unfold newer key
  split
  · exact decide_eq_decide.mpr (by omega)
  · split
    · exact decide_eq_decide.mpr (by omega)
    · split
      · exact decide_eq_decide.mpr (by omega)
      · exact decide_eq_decide.mpr (by omega)
theorem key_inj {v w : Ver} (hv : v.Sm) (hw : w.Sm) (e : v.key = w.key) : v = w := by
  obtain ⟨⟨h1, h2, h3, h4, h5⟩, h6, h7, h8⟩ := hv
  obtain ⟨⟨k1, k2, k3, k4, k5⟩, k6, k7, k8⟩ := hw
  unfold key at e
  apply ext4 <;> omega

/-- the first place at which two differ -/
def unlike (v w : Ver) : Option Nat := if v.a ≠ w.a then some 0 else if v.b ≠ w.b then some 1 else if v.c ≠ w.c then some 2 else if v.d ≠ w.d then some 3 else none
def cmp (v w : Ver) : Int := (if newer w v then 1 else 0) - (if newer v w then 1 else 0)
theorem cmp_swap (v w : Ver) : cmp w v = 0 - cmp v w := by unfold cmp; omega
theorem unlike_swap (v w : Ver) : unlike w v = unlike v w := by
  unfold unlike
  simp only [ne_comm]
theorem newer_self (v : Ver) : newer v v = false := by simp [newer]
theorem cmp_self (v : Ver) : cmp v v = 0 := by unfold cmp; rw [newer_self]; rfl
theorem unlike_self (v : Ver) : unlike v v = none := by simp [unlike]

def comp (v w : Ver) : Int := match unlike v w with
  | none => 0
  | some p => if w.l.getD p 0 < v.l.getD p 0 then 1 else -1
theorem comp_eq (v w : Ver) : comp v w = cmp v w := by
  unfold comp unlike cmp newer l
  by_cases ha : v.a = w.a
  · by_cases hb : v.b = w.b
    · by_cases hc : v.c = w.c
      · by_cases hd : v.d = w.d
        · simp [ha, hb, hc, hd]
        · simp only [ha, hb, hc, hd, ne_eq, not_true_eq_false, if_false, not_false_eq_true, if_true, List.getD_cons_zero, List.getD_cons_succ, decide_eq_true_eq]
          split <;> split <;> first | rfl | omega
      · have hc' : ¬ w.c = v.c := fun e => hc e.symm
        simp only [ha, hb, hc, hc', ne_eq, not_true_eq_false, if_false, not_false_eq_true, if_true, List.getD_cons_zero, List.getD_cons_succ, decide_eq_true_eq]
        split <;> split <;> first | rfl | omega
    · have hb' : ¬ w.b = v.b := fun e => hb e.symm
      simp only [ha, hb, hb', ne_eq, not_true_eq_false, if_false, not_false_eq_true, if_true, List.getD_cons_zero, List.getD_cons_succ, decide_eq_true_eq]
      split <;> split <;> first | rfl | omega
  · have ha' : ¬ w.a = v.a := fun e => ha e.symm
    simp only [ha, ha', ne_eq, not_true_eq_false, if_false, not_false_eq_true, if_true, List.getD_cons_zero, List.getD_cons_succ, decide_eq_true_eq]
    split <;> split <;> first | rfl | omega

/-- how far two are apart -/
def btw (v w : Ver) : Option Int := if v.a = w.a ∧ v.b = w.b then some (w.rank - v.rank) else none
/-- the law's own walk from the older one comes to the newer one -/
theorem upto {v w : Ver} (hv : v.Ok) (hw : w.Ok) (ea : v.a = w.a) (eb : v.b = w.b) (h : v.rank ≤ w.rank) : walk true v (w.rank - v.rank).toNat = some w := by
  rw [walk_on hv, if_pos rfl, show (((w.rank - v.rank).toNat : Nat) : Int) = w.rank - v.rank by omega]
  have hn := rank_nn hw
  unfold on
  rw [if_neg (by omega)]
  have e : v.rank + (w.rank - v.rank) = w.rank := by omega
  rw [e]
  obtain ⟨k1, k2, k3, k4, k5⟩ := hw
  congr 1
  unfold rank
  apply ext4
  · exact ea
  · exact eb
  · simp only; omega
  · simp only; omega
theorem walk_rank {v w : Ver} {n : Nat} (hv : v.Ok) (e : walk true v n = some w) : w.rank = v.rank + n ∧ w.a = v.a ∧ w.b = v.b := by
  rw [walk_on hv, if_pos rfl] at e
  exact on_rank e
theorem newer_rank {v w : Ver} (hv : v.Ok) (hw : w.Ok) (ea : v.a = w.a) (eb : v.b = w.b) : newer v w = decide (v.rank < w.rank) := by
  obtain ⟨h1, h2, h3, h4, h5⟩ := hv
  obtain ⟨k1, k2, k3, k4, k5⟩ := hw
  unfold newer rank
  simp only [ea, eb, ne_eq, not_true_eq_false, if_false]
  split
  · exact decide_eq_decide.mpr (by omega)
  · exact decide_eq_decide.mpr (by omega)

/-! ### the next release -/
def rel (v : Ver) (p : Nat) : Ver := match p with
  | 0 => ⟨v.a + 1, 0, 0, 0⟩
  | 1 => ⟨v.a, v.b + 1, 0, 0⟩
  | _ => ⟨v.a, v.b, v.c + 1, 0⟩
/-- what the law tries -/
def tried (v : Ver) (p : Nat) (m x y : Int) : Ver := match p with
  | 0 => ⟨v.a + m, x, y, 0⟩
  | 1 => ⟨v.a, v.b + m, x, 0⟩
  | _ => ⟨v.a, v.b, v.c + m, 0⟩
theorem tried_first (v : Ver) (p : Nat) : tried v p 1 0 0 = rel v p := by
  unfold tried rel; split <;> rfl
theorem tried_not (v : Ver) (p : Nat) {m x y : Int} (hm : 1 ≤ m) (hx : 0 ≤ x) (hy : 0 ≤ y) : newer (tried v p m x y) (rel v p) = false := by
  unfold newer tried rel
  split <;> simp only <;> (repeat' split) <;> simp_all <;> omega

/-! ### lines: the newest first, each once -/
def Line (vs : List Ver) : Prop := vs.Pairwise fun x y => y.key < x.key
def IsLine (lot line : List Ver) : Prop := Line line ∧ ∀ v, v ∈ line ↔ v ∈ lot
theorem line_unique : ∀ {xs ys : List Ver}, Line xs → Line ys → (∀ v, v ∈ xs ↔ v ∈ ys) → xs = ys
  | [], [], _, _, _ => rfl
  | [], y :: ys, _, _, h => absurd ((h y).mpr List.mem_cons_self) (by simp)
  | x :: xs, [], _, _, h => absurd ((h x).mp List.mem_cons_self) (by simp)
  | x :: xs, y :: ys, hx, hy, h => by
    obtain ⟨px, qx⟩ := List.pairwise_cons.mp hx
    obtain ⟨py, qy⟩ := List.pairwise_cons.mp hy
    have e : x = y := by
      rcases List.mem_cons.mp ((h x).mp List.mem_cons_self) with e | m
      · exact e
      · rcases List.mem_cons.mp ((h y).mpr List.mem_cons_self) with e | m2
        · exact e.symm
        · have a1 := py x m
          have a2 := px y m2
          omega
    subst e
    have t : xs = ys := line_unique qx qy fun v => ⟨fun m => by
      rcases List.mem_cons.mp ((h v).mp (List.mem_cons_of_mem _ m)) with e | m2
      · have := px v m
        rw [e] at this
        omega
      · exact m2, fun m => by
      rcases List.mem_cons.mp ((h v).mpr (List.mem_cons_of_mem _ m)) with e | m2
      · have := py v m
        rw [e] at this
        omega
      · exact m2⟩
    rw [t]
theorem IsLine.unique {lot xs ys : List Ver} (h : IsLine lot xs) (k : IsLine lot ys) : xs = ys :=
  line_unique h.1 k.1 fun v => (h.2 v).trans (k.2 v).symm
/-- the newest of some, by one look at each -/
def pick (x : Ver) (xs : List Ver) : Ver := xs.foldl (fun b o => if newer b o then o else b) x
theorem pick_append (x : Ver) (xs : List Ver) (y : Ver) : pick x (xs ++ [y]) = if newer (pick x xs) y then y else pick x xs := by
  unfold pick
  rw [List.foldl_append]
  rfl
theorem pick_mem : ∀ (xs : List Ver) (x : Ver), pick x xs = x ∨ pick x xs ∈ xs
  | [], x => .inl rfl
  | y :: ys, x => by
    have ih := pick_mem ys (if newer x y then y else x)
    have e : pick x (y :: ys) = pick (if newer x y then y else x) ys := rfl
    rw [e]
    rcases ih with ih | ih
    · rw [ih]
      split
      · exact .inr List.mem_cons_self
      · exact .inl rfl
    · exact .inr (List.mem_cons_of_mem _ ih)
theorem pick_top : ∀ (xs : List Ver) (x : Ver), x.Sm → (∀ v ∈ xs, v.Sm) → x.key ≤ (pick x xs).key ∧ ∀ v ∈ xs, v.key ≤ (pick x xs).key
  | [], x, _, _ => ⟨Int.le_refl _, fun v h => by cases h⟩
  | y :: ys, x, hx, hs => by
    have hy : y.Sm := hs y List.mem_cons_self
    have ht : ∀ v ∈ ys, v.Sm := fun v m => hs v (List.mem_cons_of_mem _ m)
    have e : pick x (y :: ys) = pick (if newer x y then y else x) ys := rfl
    rw [e, newer_key hx hy]
    by_cases h : x.key < y.key
    · rw [if_pos (decide_eq_true h)]
      obtain ⟨i1, i2⟩ := pick_top ys y hy ht
      refine ⟨by omega, fun v m => ?_⟩
      rcases List.mem_cons.mp m with rfl | m
      · exact i1
      · exact i2 v m
    · rw [if_neg (by simpa using h)]
      obtain ⟨i1, i2⟩ := pick_top ys x hx ht
      refine ⟨i1, fun v m => ?_⟩
      rcases List.mem_cons.mp m with rfl | m
      · omega
      · exact i2 v m
/-- what holds between two turns of the law's own choosing -/
structure Mid (lot left found : List Ver) : Prop where
  line : Line found
  low : ∀ x ∈ found, ∀ y ∈ left, y.key < x.key
  mem : ∀ v, (v ∈ found ∨ v ∈ left) ↔ v ∈ lot
theorem Mid.start (lot : List Ver) : Mid lot lot [] := ⟨List.Pairwise.nil, fun x h => (by cases h), fun v => by simp⟩
theorem Mid.done {lot found : List Ver} (m : Mid lot [] found) : IsLine lot found := ⟨m.line, fun v => by have := m.mem v; simpa using this⟩
theorem Mid.turn {lot found rest : List Ver} {x : Ver} (m : Mid lot (x :: rest) found) (hs : ∀ v ∈ lot, v.Sm) :
    Mid lot ((x :: rest).filter fun o => decide (o ≠ pick x (x :: rest))) (found ++ [pick x (x :: rest)]) ∧ ((x :: rest).filter fun o => decide (o ≠ pick x (x :: rest))).length < (x :: rest).length := by
  have sm : ∀ v ∈ x :: rest, v.Sm := fun v h => hs v ((m.mem v).mp (.inr h))
  have hx := sm x List.mem_cons_self
  have pm : pick x (x :: rest) ∈ x :: rest := by
    rcases pick_mem (x :: rest) x with e | e
    · rw [e]; exact List.mem_cons_self
    · exact e
  obtain ⟨_, top⟩ := pick_top (x :: rest) x hx sm
  generalize pick x (x :: rest) = p at pm top ⊢
  refine ⟨⟨?_, fun a ha b hb => ?_, fun v => ?_⟩, ?_⟩
  · refine List.pairwise_append.mpr ⟨m.line, List.pairwise_singleton _ _, fun a ha b hb => ?_⟩
    rw [List.mem_singleton.mp hb]
    exact m.low a ha p pm
  · obtain ⟨hb1, hb2⟩ := List.mem_filter.mp hb
    have hb2 : b ≠ p := of_decide_eq_true hb2
    rcases List.mem_append.mp ha with ha | ha
    · exact m.low a ha b hb1
    · rw [List.mem_singleton.mp ha]
      have h1 := top b hb1
      have h2 : b.key ≠ p.key := fun e => hb2 (key_inj (sm b hb1) (sm p pm) e)
      omega
  · rw [← m.mem v, List.mem_append, List.mem_singleton, List.mem_filter]
    constructor
    · rintro ((h | h) | ⟨h, _⟩)
      · exact .inl h
      · exact .inr (by rw [h]; exact pm)
      · exact .inr h
    · rintro (h | h)
      · exact .inl (.inl h)
      · by_cases e : v = p
        · exact .inl (.inr e)
        · exact .inr ⟨h, decide_eq_true e⟩
  · have hc : ((x :: rest).filter fun o => decide (o ≠ p)).length < (x :: rest).length := by
      rw [List.length_filter_lt_length_iff_exists]
      exact ⟨p, pm, by simp⟩
    exact hc

/-! ### releases among a line -/
theorem filter_same {line : List Ver} (h : ∀ v ∈ line, v.Ok) : (line.filter fun v => decide (v.d = 0)) = line.filter fun v => !decide (v.d < 0) := by
  refine List.filter_congr fun v m => ?_
  have q := (h v m).d0
  by_cases e : v.d = 0
  · simp [e]
  · have l : v.d < 0 := by omega
    simp [e, l]
end Ver
/-! ### what the kit lacks: min of a tuple, set of a tuple of tuples, sorted of such a set, a tuple times one -/
abbrev bareSet (w : World) : Obj := { cls := .type "set", dict := none, data := .set #[] 0 (.fresh 0 0 (!w.params.followText "set-order")) }
section
variable {P : Program} {w : World} {A : Around} {E : Value → Shared → Prop} {s : Shared}

/-- min(t), t a tuple of ints -/
theorem min_tup {t : Addr} {its : List Value} {ns : List Int} {Q : Value → Shared → Prop} (hh : A.handled = none) (ht : s.heap.IsTuple t its.toArray) (hi : IntsAre its ns) (hne : 0 < ns.length)
    (h : ∀ h' tk m u, (∀ b o, s.heap.get? b = some o → h'.get? b = some o) → m ∈ ns → (∀ y ∈ ns, m ≤ y) → Q (.int m u) { s with heap := h', toks := tk }) :
    wpAny (model P w) A (call (.builtin "min") [.ref t]) Q E s := by
  obtain ⟨xs, ex⟩ := hi.allInts.items
  have en : numsOf (intItems xs).toList = ns := ex ▸ hi.numsOf
  rw [nums_intItems] at en
  subst en
  rw [ex] at ht
  have pos : 0 < xs.size := by simpa using hne
  have tlt : t < s.heap.objs.size := by
    obtain ⟨_, e, _⟩ := ht
    exact Heap.lt_size e
  refine call_min_walk (wpAny_pyIter_tuple ht ⟨_, _, _, _, _, _, _, rfl, Walks.tuple (A := A.in1) hh _ t (Nat.ne_of_lt tlt) (intItems xs), ⟨⟨_, Heap.get?_push_size _ rfl, rfl, rfl⟩, ht.push _⟩, fun b hb => ?_, by simpa [intItems] using pos,
    CmpOf.ints_lt (numAt xs) (fun _ _ => intItems_at), fun v h' tk hP hk => ?_⟩)
  · show b < (s.heap.push _).objs.size
    rw [Heap.size_push]
    rcases List.mem_cons.mp hb with e | hb
    · rw [e]
      exact Nat.lt_succ_self _
    · rw [List.mem_singleton.mp hb]
      exact Nat.lt_succ_of_lt tlt
  · have hP' : (intItems xs)[argBest (fun i j => decide (numAt xs i < numAt xs j)) (xs.size - 1)]? = some v := by simpa [intItems] using hP
    obtain ⟨u, rfl⟩ := intItems_at hP'
    obtain ⟨b1, b2⟩ := argBest_lt (numAt xs) (xs.size - 1)
    refine h h' tk _ u (fun b o e => hk b o (fun hm => ?_) (Heap.get?_push_of_some _ e)) ?_ fun y hy => ?_
    · have := Heap.lt_size e
      rw [List.mem_singleton.mp hm] at this
      exact Nat.lt_irrefl _ this
    · rw [numAt_eq]
      exact getD_mem (by rw [List.length_map, Array.length_toList]; omega)
    · obtain ⟨j, hj, rfl⟩ := mem_getD hy
      rw [List.length_map, Array.length_toList] at hj
      rw [← numAt_eq]
      exact b2 j (by omega)

/-- set(t), t a tuple of tuples of ints -/
theorem set_tup {l : Addr} {its : Array Value} (ks : List (Addr × List Int)) {Q : Value → Shared → Prop} (hh : A.handled = none) (hl : s.heap.IsTuple l its) (hit : its.toList = ks.map fun p => Value.ref p.1)
    (hk : ∀ p ∈ ks, IsT P w s.heap p.2 p.1) (few : ks.length < 64) (hu : A.units + 3 < cLine)
    (h : ∀ (h' : Heap) (tk : Nat) L es ep t, SetTR P w h' s.heap.objs.size L es ep t → Got ks ks.length L → (∀ b o, s.heap.get? b = some o → h'.get? b = some o) → Q (.ref s.heap.objs.size) { s with heap := h', toks := tk }) :
    wpAny (model P w) A (call (.type "set") [.ref l]) Q E s := by
  have size : its.size = ks.length := by
    have q := congrArg List.length hit
    rwa [Array.length_toList, List.length_map] at q
  obtain ⟨_, _, m1⟩ := F.called_set.mro
  have m2 := F.called_set.made
  have m3 := F.called_set.sub
  refine wpAny_call (codeAny_of_tree ?_)
  show wpAny _ _ (callAny (.type "set") _) _ _ _
  refine wpAny_pure ⟨Code.quiet_builtin _ (by decide +kernel), codeAny_builtin F.entry_type_call ?_⟩
  rw [Around.under_plain (weight_type_call_type "set" [.ref l] []) rfl]
  have m4 := F.called_set.notType
  have m5 := F.called_set.canCreate
  have m6 := F.typeCall_set_1 (.ref l)
  repeat (any_goals (first | assumption | wp_step))
  refine codeAny_mono (code_set_led1 (.ref l) (E := E) (Q₁ := fun u s1 => u = .ref s.heap.objs.size ∧ s1 = { s with heap := s.heap.push (bareSet w) }) ⟨rfl, rfl⟩) fun r s1 hr => ?_
  cases r with
  | error e => exact hr
  | ok fl =>
    cases fl with
    | ret u =>
      obtain ⟨rfl, rfl⟩ := hr
      have at0 : (s.heap.push (bareSet w)).get? s.heap.objs.size = some (bareSet w) := Heap.get?_push_size _ rfl
      have ty0 : Shared.TypeIs { s with heap := s.heap.push (bareSet w) } (.ref s.heap.objs.size) "set" := ⟨_, at0, rfl⟩
      have m7 := F.called_set.init.lookup
      have m8 := F.called_set.init.bind (.ref s.heap.objs.size)
      repeat (any_goals (first | assumption | wp_step))
      refine codeAny_mono (codeAny_call_builtin (R := wants (fun v s2 => v = .none ∧ ∃ h' tk L es ep t, s2 = { s with heap := h', toks := tk } ∧ SetTR P w h' s.heap.objs.size L es ep t ∧ Got ks ks.length L ∧
          (∀ b o, s.heap.get? b = some o → h'.get? b = some o)) E) F.called_set.init.plain F.entry_set_init (check_set_init_1 ty0 ?_)) fun r2 s2 hr2 => ?_
      · obtain ⟨⟨oc, od, ox, os⟩, ho, hc, n, hd⟩ := hl
        simp only at hc hd
        subst hc hd
        have ho2 : (s.heap.push (bareSet w)).get? l = some { cls := .type "tuple", dict := od, data := .seq its n, slots := os } := Heap.get?_push_of_some _ ho
        have n1 := F.sub_tuple_set
        have n2 := F.sub_tuple_frozenset
        have n3 : (Value.type "tuple" == Value.type "dict") = false := by decide
        have tup1 : (s.heap.push (bareSet w)).IsTuple l its := ⟨_, ho2, rfl, n, rfl⟩
        unfold Builtin.«set.__init__» noKeywords Builtin.Frozenset.updateFrom
        generalize hPI : pyIter = PI
        wp_walk
        subst hPI
        refine wpAny_pyIter_tuple tup1 (wpAny_bind (wpAny_runValue ?_))
        have lS : l < s.heap.objs.size := Heap.lt_size ho
        have lI : l ≠ (s.heap.push (bareSet w)).objs.size := by
          rw [Heap.size_push]
          exact Nat.ne_of_lt (Nat.lt_succ_of_lt lS)
        have sf : s.heap.objs.size ∉ [(s.heap.push (bareSet w)).objs.size, l] := by
          rw [Heap.size_push]
          intro z
          rcases List.mem_cons.mp z with z | z
          · exact absurd z (Nat.ne_of_lt (Nat.lt_succ_self _))
          · exact absurd (List.mem_singleton.mp z) (Nat.ne_of_gt lS)
        have vals : ∀ (i : Nat) (v : Value), its[i]? = some v → ∃ p, ks[i]? = some p ∧ v = .ref p.1 := fun i v hv => by
          have q : its.toList[i]? = some v := by rw [Array.getElem?_toList]; exact hv
          rw [hit, List.getElem?_map] at q
          cases hq : ks[i]? with
          | none => rw [hq] at q; cases q
          | some p =>
            rw [hq] at q
            exact ⟨p, rfl, (Option.some.inj q).symm⟩
        have gone : ∀ b, s.heap.objs.size ≤ b → s.heap.get? b = none := fun b hb => by
          cases q : s.heap.get? b with
          | none => rfl
          | some o => exact absurd (Nat.lt_of_lt_of_le (Heap.lt_size q) hb) (Nat.lt_irrefl _)
        refine set_update_tups ((Walks.tuple (by simp [hh]) _ l lI its).toS) s.heap.objs.size sf ks size few vals s.heap hk (gone _ (Nat.le_refl _)) (fun b hb => gone b (by
            rw [List.mem_singleton.mp hb, Heap.size_push]
            exact Nat.le_succ _)) hu (its.size - 0) 0 _ (by omega) (Nat.zero_le _) ⟨⟨_, Heap.get?_push_size _ rfl, rfl, rfl⟩, (tup1.push _)⟩ (fun b o e => Heap.get?_push_of_some _ (Heap.get?_push_of_some _ e))
          ⟨[], #[], 0, _, setTR_fresh (Heap.get?_push_of_some _ at0), Got.zero ks⟩ fun s3 L es ep t mv got g3 kept => ?_
        obtain ⟨h3, g, d3, tk3, o3⟩ := s3
        obtain rfl : g = s.gens := mv.gens
        obtain rfl : d3 = s.drawn := mv.drawn
        obtain rfl : o3 = s.os := mv.os
        show wpAny _ _ _ _ _ _
        refine wpAny_pure ?_
        show wpAny _ _ (ret Value.none) _ _ _
        rw [size] at g3
        exact wpAny_pure ⟨rfl, h3, tk3, L, es, ep, t, rfl, got, g3, kept⟩
      · cases r2 with
        | error e => exact hr2
        | ok fl2 =>
          cases fl2 with
          | ret v =>
            obtain ⟨rfl, h3, tk3, L, es, ep, t, rfl, got, g3, kept⟩ := hr2
            repeat (any_goals (first | assumption | wp_step))
            exact h _ _ _ _ _ _ got g3 kept
          | _ => exact hr2.elim
    | _ => exact hr.elim
end
/-! ### sorted of a set of tuples of ints, of any size -/
def encT (q : Addr × List Int) : PyData := .tuple (q.2.map .int)
theorem reads_ints {h : Heap} : ∀ {us : List Value} {ns : List Int}, IntsAre us ns → ReadsAll h us (ns.map .int) []
  | _, _, .nil => .nil
  | _, _, .cons n t r => ReadsAll.cons (as := []) (.int n t) (reads_ints r)
theorem reads_tup {h : Heap} {q : Addr × List Int} (x : TS.TupInts h (.ref q.1) q.2) : Reads h (.ref q.1) (encT q) [] := by
  obtain ⟨a, xs, e, ⟨o, ho, hc, n, hd⟩, hi⟩ := x
  cases e
  exact .tuple ho hc hd (reads_ints hi)
theorem le_of_enc : PySem.W.dataLe false encT = fun p q => decide (p.2 ≤ q.2) := by
  funext p q
  show (!PySem.W.dataLt (.tuple (q.2.map .int)) (.tuple (p.2.map .int))) = _
  rw [PySem.W.dataLt_tuple]
  show (!PySem.W.rowLt (q.2.map .int) (p.2.map .int)) = _
  rw [PySem.W.dataLt_ints]
  by_cases c : q.2 < p.2
  · simp [c, List.not_le.mpr c]
  · simp [c, List.not_lt.mp c]
theorem each_refs : ∀ (ks : List (Addr × List Int)), PySem.W.EachIs (fun (v : Value) (q : Addr × List Int) => v = .ref q.1) (ks.map fun q => Value.ref q.1) ks
  | [] => .nil
  | _ :: ks => .cons rfl (each_refs ks)
theorem of_each_refs : ∀ {us : List Value} {ks : List (Addr × List Int)}, PySem.W.EachIs (fun (v : Value) (q : Addr × List Int) => v = .ref q.1) us ks → us = ks.map fun q => Value.ref q.1
  | _, _, .nil => rfl
  | _, _, .cons e t => by rw [e, of_each_refs t]; rfl
theorem each_reads {h : Heap} {a : Addr} : ∀ (ks : List (Addr × List Int)), (∀ q ∈ ks, TS.TupInts h (.ref q.1) q.2) → PySem.W.EachIs (fun (v : Value) (q : Addr × List Int) => ∃ as, Reads h v (encT q) as ∧ a ∉ as) (ks.map fun q => Value.ref q.1) ks
  | [], _ => .nil
  | q :: ks, hk => .cons ⟨[], reads_tup (hk q List.mem_cons_self), by simp⟩ (each_reads ks fun r hr => hk r (List.mem_cons_of_mem _ hr))
theorem depth_enc (q : Addr × List Int) : (encT q).depth ≤ 1 := by
  unfold encT
  simp only [PyData.depth]
  rw [PySem.W.depth_ints]
  exact Nat.le_refl _
section
variable {P : Program} {w : World} {A : Around} {E : Value → Shared → Prop} {s : Shared}
theorem sorted_setA {a : Addr} {L : List (Addr × List Int)} {es : Array (Int × Value)} {ep : Nat} {t : SetTable} {Q : Value → Shared → Prop} (R : SetTR P w s.heap a L es ep t) (hh : A.handled = none) (hu : A.units + 3 < cLine) (hne : ∀ q ∈ L, q.2 ≠ [])
    (h : ∀ s' p (out : Array Value) (c : Nat) (L' : List (Addr × List Int)), (∀ b o, s.heap.get? b = some o → s'.heap.get? b = some o) → s'.gens = s.gens → s'.os = s.os → s.heap.objs.size ≤ p →
      s'.heap.get? p = some (seqObj "list" out c) → out.toList = L'.map (fun q => Value.ref q.1) → L'.Perm L → L'.Pairwise (fun q r => q.2 ≤ r.2) → Q (.ref p) s') :
    wpAny (model P w) A (call (.builtin "sorted") [.ref a]) Q E s := by
  obtain ⟨o, ho, hex, hd⟩ := R.ob
  have small := R.few
  refine Calls.call_function_entry kind_sorted plain_sorted entry_sorted (args_sorted1 _) ?_
  unfold Builtin.«sorted»
  refine wpAny_bind (m := checkCount "sorted" 1 1 _) (wpAny_pure (wpAny_bind ?_))
  refine collect_set (A := A.in1) hh ⟨o, ho, hex.1, hd⟩ R.fits (by rw [R.size]; unfold scanBound; omega) R.tab.ris R.led fun s1 us k1 z1 g1 o1 pm => ?_
  have rows : es.toList.map (·.2) = L.map fun q => Value.ref q.1 := by
    rw [R.rows, rowsOf, List.map_map] <;> rfl
  rw [rows] at pm
  -- what was collected are the addresses of a rearrangement of L
  obtain ⟨L1, e1, pL1⟩ : ∃ L1 : List (Addr × List Int), us = L1.map (fun q => Value.ref q.1) ∧ L1.Perm L := by
    have back : ∀ {xs ys : List Value}, xs.Perm ys → ∀ L2 : List (Addr × List Int), ys = L2.map (fun q => Value.ref q.1) → ∃ L1 : List (Addr × List Int), xs = L1.map (fun q => Value.ref q.1) ∧ L1.Perm L2 := by
      intro xs ys pxy
      induction pxy with
      | nil =>
        intro L2 e
        cases L2 with
        | nil => exact ⟨[], rfl, .nil⟩
        | cons q r => cases e
      | cons x _ ih =>
        intro L2 e
        cases L2 with
        | nil => cases e
        | cons q r =>
          rw [List.map_cons] at e
          injection e with ea eb
          obtain ⟨M, em, pM⟩ := ih r eb
          exact ⟨q :: M, by rw [List.map_cons, ea, em], pM.cons q⟩
      | swap x y l =>
        intro L2 e
        match L2, e with
        | q :: r :: M, e =>
          simp only [List.map_cons, List.cons.injEq] at e
          obtain ⟨ea, eb, ec⟩ := e
          exact ⟨r :: q :: M, by simp only [List.map_cons, ea, eb, ec], .swap q r M⟩
      | trans _ _ i1 i2 =>
        intro L2 e
        obtain ⟨M, em, pM⟩ := i2 L2 e
        obtain ⟨M2, em2, pM2⟩ := i1 M em
        exact ⟨M2, em2, pM2.trans pM⟩
    exact back pm L rfl
  subst e1
  have len1 : L1.length < 64 := by rw [pL1.length_eq]; exact small
  refine wpAny_bind (wpAny_newList ?_ (by rw [sizeLine_eq, List.length_map]; omega))
  have hoL : (s1.heap.push (seqObj "list" (L1.map fun q => Value.ref q.1).toArray 0)).get? s1.heap.objs.size = some (seqObj "list" (L1.map fun q => Value.ref q.1).toArray 0) := Heap.get?_push_size _ rfl
  have tk : ∀ q ∈ L1, TS.TupInts (s1.heap.push (seqObj "list" (L1.map fun q => Value.ref q.1).toArray 0)) (.ref q.1) q.2 := fun q hq =>
    tupInts_of (P := P) (w := w) (isT_keep (R.tup q (pL1.mem_iff.mp hq)) fun b u e => Heap.get?_push_of_some _ (k1 b u e))
  refine wpAny_bind (wpAny_holding ?_)
  refine PySem.W.list_sort_data (s := { s1 with heap := s1.heap.push (seqObj "list" (L1.map fun q => Value.ref q.1).toArray 0) }) (enc := encT) (R := fun v q => v = .ref q.1) hoL (each_refs L1) (each_reads L1 tk) ?_ ?_ ?_ ?_ fun out hlen he => ?_
  · intro x hx y hy
    obtain ⟨q, _, rfl⟩ := List.mem_map.mp hx
    obtain ⟨r, _, rfl⟩ := List.mem_map.mp hy
    show PySem.W.alike (.tuple _) (.tuple _) = true
    simp only [PySem.W.alike]
    exact PySem.W.alike_ints _ _
  · refine .inl fun d hd => ?_
    obtain ⟨q, hq, rfl⟩ := List.mem_map.mp hd
    obtain ⟨n, r, e⟩ := List.exists_cons_of_ne_nil (hne q (pL1.mem_iff.mp hq))
    exact ⟨_, _, by unfold encT; rw [e]; rfl⟩
  · rw [sizeLine_eq]; omega
  · intro q _
    have := depth_enc q
    show A.units + 1 + 1 + _ < _
    omega
  · rw [le_of_enc] at he
    have eo := of_each_refs he
    have pms := List.mergeSort_perm L1 (fun p q : Addr × List Int => decide (p.2 ≤ q.2))
    obtain ⟨c, hc⟩ := sortedHeap_at (vs := L1.map fun q => Value.ref q.1) (out := out.toArray) hoL
    refine wpAny_pure ⟨_, rfl, h _ s1.heap.objs.size out.toArray c (L1.mergeSort fun p q => decide (p.2 ≤ q.2)) (fun b u e => ?_) g1 o1 z1 hc (by simpa using eo) (pms.trans pL1) ?_⟩
    · have q := k1 b u e
      have lt := Heap.lt_size q
      show (sortedHeap _ _ _ out.toArray).get? b = some u
      rw [sortedHeap_old (Nat.ne_of_lt lt) (by rw [Heap.size_push]; exact Nat.lt_succ_of_lt lt)]
      exact Heap.get?_push_of_some _ q
    · refine List.Pairwise.imp (fun {p q} e => of_decide_eq_true e) (List.pairwise_mergeSort (le := fun p q : Addr × List Int => decide (p.2 ≤ q.2)) (fun x y z e1 e2 => decide_eq_true (List.le_trans (of_decide_eq_true e1) (of_decide_eq_true e2))) (fun x y => ?_) L1)
      rcases List.le_total x.2 y.2 with e | e <;> simp [e]
end

/-! ### by values -/
section
variable {X : Cx}
theorem vals_one {a : Addr} {us : List Value} (r : Vals [V.ref a] us) : us = [Value.ref a] := Vals.ref1 r
def rMinT (K : PySem.W.Frag) : List V → Hp → VK → Prop := fun vs H Q => ∃ (a : Addr) (ns : List Int), vs = [V.ref a] ∧ SqT K H a (ns.map V.int) ∧ 0 < ns.length ∧ ∀ m, m ∈ ns → (∀ y ∈ ns, m ≤ y) → Q (.int m) H
theorem cr_minT (hc : X.calm = true) : CallR X (.builtin "min") (rMinT X.K) := by
  intro pins s σ H xs us Q I r h
  obtain ⟨a, ns, rfl, ha, hne, q⟩ := h
  rw [vals_one r]
  obtain ⟨its, rv, ht, _⟩ := I.tuple ha
  exact min_tup (I.ok.hd hc) ht (Vals.ints rv) hne fun h' tk m u k hm hl => ⟨.int m, H, I.kept k, ⟨_, rfl⟩, q m hm hl⟩
def rSetTT (K : PySem.W.Frag) (P : Program) (w : World) : List V → Hp → VK → Prop := fun xs H Q => ∃ (l : Addr) (ks : List (Addr × List Int)), xs = [V.ref l] ∧ SqT K H l (ks.map fun p => V.ref p.1) ∧ (∀ p ∈ ks, SqT K H p.1 (p.2.map V.int)) ∧ ks.length < 64 ∧
  ∀ a L, H a = none → (∀ p ∈ L, p ∈ ks) → (∀ p ∈ ks, p.2 ∈ L.map (·.2)) → Q (.ref a) (upd H a (SetTO P w a L))
theorem cr_setTT (hc : X.calm = true) (hu : X.A.units + 64 < cLine) : CallR X (.type "set") (rSetTT X.K X.prog X.w) := by
  intro pins s σ H xs us Q I r h
  obtain ⟨l, ks, rfl, hl, hk, few, q⟩ := h
  rw [vals_one r]
  obtain ⟨its, rv, ht, _⟩ := I.tuple hl
  refine set_tup (P := X.prog) (w := X.w) ks (I.ok.hd hc) ht (by simpa using refs_of_vals rv) (fun p hp => I.isT (hk p hp)) few (by omega) fun h' tk L es ep t R g k => ?_
  exact ⟨.ref s.heap.objs.size, _, I.laid (t' := tk) (o := SetTO X.prog X.w s.heap.objs.size L) k (Nat.le_refl _) (setTO_new R.t0), rfl, q _ L (I.hok.fresh (Nat.le_refl _)) (fun p hp => List.mem_of_mem_take (g.sub p hp)) fun p hp => g.all p (by rw [List.take_length]; exact hp)⟩
def rSortedA (K : PySem.W.Frag) (P : Program) (w : World) : List V → Hp → VK → Prop := fun vs H Q => ∃ (a : Addr) (L : List (Addr × List Int)), vs = [V.ref a] ∧ H a = some (SetTO P w a L) ∧ (∀ p ∈ L, SqT K H p.1 (p.2.map V.int) ∧ p.2 ≠ []) ∧
  ∀ (L' : List (Addr × List Int)) (p : Addr), L'.Perm L → (L'.map (·.2)).Nodup → L'.Pairwise (fun q r => q.2 ≤ r.2) → H p = none → Q (.ref p) (upd H p (.lst (L'.map fun q => V.ref q.1)))
theorem cr_sortedA (hc : X.calm = true) (hu : X.A.units + 64 < cLine) : CallR X (.builtin "sorted") (rSortedA X.K X.prog X.w) := by
  intro pins s σ H vs us Q I r h
  obtain ⟨a, L, rfl, ha, hk, q⟩ := h
  have R0 : SetT0 X.prog X.w s.heap a L := (I.hok a _ ha).1
  obtain ⟨es, ep, t, R⟩ := R0.full fun p hp => I.isT (hk p hp).1
  rw [vals_one r]
  refine sorted_setA R (I.ok.hd hc) (by omega) (fun p hp => (hk p hp).2) fun s' p out c L' k g o hp hg hout pm pw => ?_
  have few : L'.length < 64 := by rw [pm.length_eq]; exact R.few
  have hn : H p = none := I.hok.fresh hp
  obtain ⟨h1, g1, d1, t1, o1⟩ := s'
  obtain rfl : o1 = s.os := o
  exact ⟨.ref p, _, I.call (h' := h1) (g' := g1) (d' := d1) (t' := t1) (ch := []) (Un.laid k hp hn) (I.hok.laid k hp (o := .lst (L'.map fun q => V.ref q.1)) ⟨by rw [List.length_map, sizeLine_eq]; omega, out.toList, c, by rw [hout]; exact vals_of_refs L', hg⟩)
    (by rw [show g1 = s.gens from g]; exact I.bare) (fun _ z => nomatch z), rfl, q L' p pm ((pm.map (·.2)).nodup_iff.mpr R.nd) pw hn⟩
end
end Nf

namespace Nf
open PySem PySem.Spec PyProof.Rows L2
/-! ### (x,) * k from 1 on: once is the tuple itself -/
theorem tuple_times1 (l : Addr) (its : Array Value) (n : Nat) (dd : Option Addr) (sl : Array (Option Value)) (u : Tok) :
    Meets (Builtin.«tuple.__mul__» ⟨[.ref l, .int 1 u], []⟩) (fun _ R s => s.heap.get? l = some { cls := .type "tuple", dict := dd, data := .seq its n, slots := sl } ∧ R (.ok (.ret (.ref l))) s) :=
  .of_wp fun prog w A R s h => by
    obtain ⟨hp, g, d, tk, os⟩ := s
    obtain ⟨hl, h⟩ := h
    have f1 := AutoSeq1.idx_int
    wp_walk using wpAny_loadPart' hl
    exact ⟨_, rfl, h⟩
section
variable {X : Cx}
def rTimes (K : PySem.W.Frag) : R2 := fun x y H Q => ∃ l k xs, x = .ref l ∧ y = .int k ∧ SqT K H l xs ∧ xs ≠ [] ∧ 1 ≤ k ∧ k ≤ 1000 ∧ xs.length ≤ 1000 ∧ (k = 1 → Q (.ref l) H) ∧ (2 ≤ k → ∀ p, H p = none → Q (.ref p) (upd H p (.tup (List.replicate k.toNat xs).flatten)))
theorem op_times : OpR X (binaryOp .Mult) (rTimes X.K) := by
  intro pins s σ H x y v u Q I rx ry h
  obtain ⟨l, k, xs, rfl, rfl, hT, hne, h1, h2, hz, q1, q2⟩ := h
  by_cases hk : k = 1
  · subst hk
    cases rx
    obtain ⟨t, rfl⟩ := ry
    obtain ⟨its, r, ⟨⟨cls, dd, data, sl⟩, ho, hc, n, hd⟩, _⟩ := I.tuple hT
    simp only at hc hd
    subst hc hd
    exact wpAny_binaryOp_repeat_ref (T := "tuple") (U := "int") (by decide) ⟨_, ho, rfl⟩ (fun s' => typeIs_int s' 1 t) noFill_tuple_mul F.fills_int_mul F.slot_int_rmul repeat_tuple F.slot_int_index.lookup
      (call_meets F.slot_int_rmul (typeIs_int s 1 t) F.entry_int_rmul (F.args_int_rmul_2 _ _) (int_rmul_tuple 1 t l its.toArray n dd sl)
        ⟨ho, rfl, ⟨_, ho, rfl⟩, call_meets F.slot_tuple_mul ⟨_, ho, rfl⟩ F.entry_tuple_mul (F.args_tuple_mul_2 _ _) (tuple_times1 l its.toArray n dd sl t) ⟨ho, ⟨.ref l, H, I, rfl, q1 rfl⟩⟩⟩)
  · exact op_repT pins s σ H _ _ v u Q I rx ry ⟨l, k, xs, rfl, rfl, hT, hne, by omega, h2, hz, q2 (by omega)⟩
end
/-! ### the text by places -/
def topS (i : Nat) : Stmt := PySem.Challenge.pw_newestfit_k02_whole_order_and_steps_of_v.main.body.getD i (.Pass ⟨0, 0, 0, 0⟩)
abbrev s_tupled : Stmt := topS 1
abbrev N_tupled : List Str := ["thing", "part"]
abbrev P_tupled : List Str := ["thing"]
theorem sc_tupled : FnScope N_tupled P_tupled (defScope s_tupled) := ⟨rfl, rfl, rfl, by decide +kernel, rfl, by decide +kernel, by decide +kernel⟩
abbrev s_is_early : Stmt := topS 4
abbrev N_is_early : List Str := ["version"]
abbrev P_is_early : List Str := ["version"]
theorem sc_is_early : FnScope N_is_early P_is_early (defScope s_is_early) := ⟨rfl, rfl, rfl, by decide +kernel, rfl, by decide +kernel, by decide +kernel⟩
abbrev s_first_unlike : Stmt := topS 5
abbrev N_first_unlike : List Str := ["one", "other", "place"]
abbrev P_first_unlike : List Str := ["one", "other"]
theorem sc_first_unlike : FnScope N_first_unlike P_first_unlike (defScope s_first_unlike) := ⟨rfl, rfl, rfl, by decide +kernel, rfl, by decide +kernel, by decide +kernel⟩
abbrev s_compared : Stmt := topS 6
abbrev N_compared : List Str := ["one", "other", "place"]
abbrev P_compared : List Str := ["one", "other"]
theorem sc_compared : FnScope N_compared P_compared (defScope s_compared) := ⟨rfl, rfl, rfl, by decide +kernel, rfl, by decide +kernel, by decide +kernel⟩
abbrev s_rank_among : Stmt := topS 7
abbrev N_rank_among : List Str := ["version"]
abbrev P_rank_among : List Str := ["version"]
theorem sc_rank_among : FnScope N_rank_among P_rank_among (defScope s_rank_among) := ⟨rfl, rfl, rfl, by decide +kernel, rfl, by decide +kernel, by decide +kernel⟩
abbrev s_steps_on : Stmt := topS 8
abbrev N_steps_on : List Str := ["version", "many", "rank"]
abbrev P_steps_on : List Str := ["version", "many"]
theorem sc_steps_on : FnScope N_steps_on P_steps_on (defScope s_steps_on) := ⟨rfl, rfl, rfl, by decide +kernel, rfl, by decide +kernel, by decide +kernel⟩
abbrev s_next_version : Stmt := topS 9
abbrev N_next_version : List Str := ["version"]
abbrev P_next_version : List Str := ["version"]
theorem sc_next_version : FnScope N_next_version P_next_version (defScope s_next_version) := ⟨rfl, rfl, rfl, by decide +kernel, rfl, by decide +kernel, by decide +kernel⟩
abbrev s_version_ahead : Stmt := topS 10
abbrev N_version_ahead : List Str := ["version"]
abbrev P_version_ahead : List Str := ["version"]
theorem sc_version_ahead : FnScope N_version_ahead P_version_ahead (defScope s_version_ahead) := ⟨rfl, rfl, rfl, by decide +kernel, rfl, by decide +kernel, by decide +kernel⟩
abbrev s_steps_between : Stmt := topS 11
abbrev N_steps_between : List Str := ["one", "other"]
abbrev P_steps_between : List Str := ["one", "other"]
theorem sc_steps_between : FnScope N_steps_between P_steps_between (defScope s_steps_between) := ⟨rfl, rfl, rfl, by decide +kernel, rfl, by decide +kernel, by decide +kernel⟩
abbrev s_next_release : Stmt := topS 12
abbrev N_next_release : List Str := ["version", "place"]
abbrev P_next_release : List Str := ["version", "place"]
theorem sc_next_release : FnScope N_next_release P_next_release (defScope s_next_release) := ⟨rfl, rfl, rfl, by decide +kernel, rfl, by decide +kernel, by decide +kernel⟩
abbrev s_from_best : Stmt := topS 13
abbrev N_from_best : List Str := ["versions"]
abbrev P_from_best : List Str := ["versions"]
theorem sc_from_best : FnScope N_from_best P_from_best (defScope s_from_best) := ⟨rfl, rfl, rfl, by decide +kernel, rfl, by decide +kernel, by decide +kernel⟩
abbrev s_newest_of : Stmt := topS 14
abbrev N_newest_of : List Str := ["versions", "early", "goods", "own"]
abbrev P_newest_of : List Str := ["versions", "early"]
theorem sc_newest_of : FnScope N_newest_of P_newest_of (defScope s_newest_of) := ⟨rfl, rfl, rfl, by decide +kernel, rfl, by decide +kernel, by decide +kernel⟩
abbrev s_w_box : Stmt := topS 16
abbrev N_w_box : List Str := ["_law_script", "_law_k", "_law_cell_so"]
abbrev P_w_box : List Str := ["_law_script", "_law_k"]
theorem sc_w_box : FnScope N_w_box P_w_box (defScope s_w_box) := ⟨rfl, rfl, rfl, by decide +kernel, rfl, by decide +kernel, by decide +kernel⟩
abbrev s_w_take : Stmt := topS 17
abbrev N_w_take : List Str := ["_law_tin", "_law_below_so", "_law_drawn", "_law_once_so", "_law_wide_so", "_law_twice_so"]
abbrev P_w_take : List Str := ["_law_tin", "_law_below_so"]
theorem sc_w_take : FnScope N_w_take P_w_take (defScope s_w_take) := ⟨rfl, rfl, rfl, by decide +kernel, rfl, by decide +kernel, by decide +kernel⟩
abbrev s_w_cells : Stmt := topS 18
abbrev N_w_cells : List Str := ["_law_script", "_law_most_so", "_law_cells_so", "_law_k", "_law_cell_so", "_law_at_so"]
abbrev P_w_cells : List Str := ["_law_script", "_law_most_so"]
theorem sc_w_cells : FnScope N_w_cells P_w_cells (defScope s_w_cells) := ⟨rfl, rfl, rfl, by decide +kernel, rfl, by decide +kernel, by decide +kernel⟩
abbrev s_w_of : Stmt := topS 19
abbrev N_w_of : List Str := ["_law_tin", "_law_goods_so"]
abbrev P_w_of : List Str := ["_law_tin", "_law_goods_so"]
theorem sc_w_of : FnScope N_w_of P_w_of (defScope s_w_of) := ⟨rfl, rfl, rfl, by decide +kernel, rfl, by decide +kernel, by decide +kernel⟩
abbrev s_w_lists : Stmt := topS 20
abbrev N_w_lists : List Str := ["_law_matter", "_law_bit"]
abbrev P_w_lists : List Str := ["_law_matter"]
theorem sc_w_lists : FnScope N_w_lists P_w_lists (defScope s_w_lists) := ⟨rfl, rfl, rfl, by decide +kernel, rfl, by decide +kernel, by decide +kernel⟩
abbrev s_w_same : Stmt := topS 21
abbrev N_w_same : List Str := ["_law_got", "_law_due", "_law_mine", "_law_its"]
abbrev P_w_same : List Str := ["_law_got", "_law_due"]
theorem sc_w_same : FnScope N_w_same P_w_same (defScope s_w_same) := ⟨rfl, rfl, rfl, by decide +kernel, rfl, by decide +kernel, by decide +kernel⟩
abbrev s_w_is_number : Stmt := topS 22
abbrev N_w_is_number : List Str := ["_law_own"]
abbrev P_w_is_number : List Str := ["_law_own"]
theorem sc_w_is_number : FnScope N_w_is_number P_w_is_number (defScope s_w_is_number) := ⟨rfl, rfl, rfl, by decide +kernel, rfl, by decide +kernel, by decide +kernel⟩
abbrev s_w_next : Stmt := topS 23
abbrev N_w_next : List Str := ["_law_version_so", "_law_first_so", "_law_middle_so", "_law_last_so", "_law_early_so"]
abbrev P_w_next : List Str := ["_law_version_so"]
theorem sc_w_next : FnScope N_w_next P_w_next (defScope s_w_next) := ⟨rfl, rfl, rfl, by decide +kernel, rfl, by decide +kernel, by decide +kernel⟩
abbrev s_w_is_version : Stmt := topS 24
abbrev N_w_is_version : List Str := ["_law_own", "_law_bit"]
abbrev P_w_is_version : List Str := ["_law_own"]
theorem sc_w_is_version : FnScope N_w_is_version P_w_is_version (defScope s_w_is_version) := ⟨rfl, rfl, rfl, by decide +kernel, rfl, by decide +kernel, by decide +kernel⟩
abbrev s_w_newer : Stmt := topS 25
abbrev N_w_newer : List Str := ["_law_one_so", "_law_two_so", "_law_near_so", "_law_far_so"]
abbrev P_w_newer : List Str := ["_law_one_so", "_law_two_so"]
theorem sc_w_newer : FnScope N_w_newer P_w_newer (defScope s_w_newer) := ⟨rfl, rfl, rfl, by decide +kernel, rfl, by decide +kernel, by decide +kernel⟩
abbrev s_w_ahead : Stmt := topS 26
abbrev N_w_ahead : List Str := ["_law_version_so", "_law_first_so", "_law_middle_so", "_law_last_so", "_law_early_so", "_law_own"]
abbrev P_w_ahead : List Str := ["_law_version_so"]
theorem sc_w_ahead : FnScope N_w_ahead P_w_ahead (defScope s_w_ahead) := ⟨rfl, rfl, rfl, by decide +kernel, rfl, by decide +kernel, by decide +kernel⟩
abbrev s_w_walk : Stmt := topS 27
abbrev N_w_walk : List Str := ["_law_version_so", "_law_many_so", "_law_own", "_law_lap"]
abbrev P_w_walk : List Str := ["_law_version_so", "_law_many_so"]
theorem sc_w_walk : FnScope N_w_walk P_w_walk (defScope s_w_walk) := ⟨rfl, rfl, rfl, by decide +kernel, rfl, by decide +kernel, by decide +kernel⟩
abbrev s_w_apart : Stmt := topS 28
abbrev N_w_apart : List Str := ["_law_one_so", "_law_two_so", "_law_many_so"]
abbrev P_w_apart : List Str := ["_law_one_so", "_law_two_so"]
theorem sc_w_apart : FnScope N_w_apart P_w_apart (defScope s_w_apart) := ⟨rfl, rfl, rfl, by decide +kernel, rfl, by decide +kernel, by decide +kernel⟩
abbrev s_w_between : Stmt := topS 29
abbrev N_w_between : List Str := ["_law_one_so", "_law_two_so"]
abbrev P_w_between : List Str := ["_law_one_so", "_law_two_so"]
theorem sc_w_between : FnScope N_w_between P_w_between (defScope s_w_between) := ⟨rfl, rfl, rfl, by decide +kernel, rfl, by decide +kernel, by decide +kernel⟩
abbrev s_w_bumped : Stmt := topS 30
abbrev N_w_bumped : List Str := ["_law_version_so", "_law_place_so", "_law_found", "_law_more_so", "_law_low_so", "_law_last_so", "_law_own", "_law_rest_so", "_law_best_so"]
abbrev P_w_bumped : List Str := ["_law_version_so", "_law_place_so"]
theorem sc_w_bumped : FnScope N_w_bumped P_w_bumped (defScope s_w_bumped) := ⟨rfl, rfl, rfl, by decide +kernel, rfl, by decide +kernel, by decide +kernel⟩
abbrev s_w_sorted : Stmt := topS 31
abbrev N_w_sorted : List Str := ["_law_versions_so", "_law_left_so", "_law_found", "_law_best_so", "_law_own"]
abbrev P_w_sorted : List Str := ["_law_versions_so"]
theorem sc_w_sorted : FnScope N_w_sorted P_w_sorted (defScope s_w_sorted) := ⟨rfl, rfl, rfl, by decide +kernel, rfl, by decide +kernel, by decide +kernel⟩
abbrev s_w_close : Stmt := topS 32
abbrev N_w_close : List Str := ["_law_tin", "_law_version_so", "_law_found", "_law_lap", "_law_k"]
abbrev P_w_close : List Str := ["_law_tin", "_law_version_so"]
theorem sc_w_close : FnScope N_w_close P_w_close (defScope s_w_close) := ⟨rfl, rfl, rfl, by decide +kernel, rfl, by decide +kernel, by decide +kernel⟩
abbrev s_w_some : Stmt := topS 33
abbrev N_w_some : List Str := ["_law_tin", "_law_parts_so", "_law_k"]
abbrev P_w_some : List Str := ["_law_tin"]
theorem sc_w_some : FnScope N_w_some P_w_some (defScope s_w_some) := ⟨rfl, rfl, rfl, by decide +kernel, rfl, by decide +kernel, by decide +kernel⟩
abbrev s_w_by_hand_right : Stmt := topS 34
abbrev N_w_by_hand_right : List Str := ["_law_v", "_law_w", "_law_got", "_law_due", "_law_place"]
abbrev P_w_by_hand_right : List Str := []
theorem sc_w_by_hand_right : FnScope N_w_by_hand_right P_w_by_hand_right (defScope s_w_by_hand_right) := ⟨rfl, rfl, rfl, by decide +kernel, rfl, by decide +kernel, by decide +kernel⟩
abbrev s_w_right : Stmt := topS 35
abbrev N_w_right : List Str := ["_law_tin", "_law_one", "_law_two", "_law_many", "_law_got", "_law_due", "_law_unlike_so", "_law_k", "_law_sign_so", "_law_place", "_law_lot_so", "_law_lap", "_law_line_so", "_law_releases_so", "_law_own"]
abbrev P_w_right : List Str := ["_law_tin"]
theorem sc_w_right : FnScope N_w_right P_w_right (defScope s_w_right) := ⟨rfl, rfl, rfl, by decide +kernel, rfl, by decide +kernel, by decide +kernel⟩
abbrev s_law : Stmt := topS 36
abbrev N_law : List Str := ["_law_script", "_law_cells_here", "_law_k"]
abbrev P_law : List Str := ["_law_script"]
theorem sc_law : FnScope N_law P_law (defScope s_law) := ⟨rfl, rfl, rfl, by decide +kernel, rfl, by decide +kernel, by decide +kernel⟩

def Lk (K : PySem.W.Frag) (f : Addr) (fd : FuncData) : Prop := ∃ oc od osl, K.lookup f = some ⟨oc, od, .func fd, osl⟩
/-! ### a def that keeps its promise, with all that a call of it wants -/
structure Dn (P : Program) (w : World) (K : PySem.W.Frag) (mg : Str → Option Value) (base : Heap) (k : Nat) (x : Str) (ps : List Str) (sp : Sp) : Prop where
  ex : ∃ (f : Addr) (fd : FuncData), FnOk P w K mg base CX0 k f fd ps sp ∧ mg x = some (.ref f) ∧ PySem.W.keepIn K (.ref f) = true ∧ Binds K fd ps [] ∧ Lk K f fd
section
variable {X : Cx} {k : Nat} {x : Str} {ps ks : List Str} {sp : Sp} {p pos : Pos} {e : Expr} {es : List Expr} {t tk : TA} {kws : List Keyword}
theorem pe_dn (D : Dn X.prog X.w X.K X.mg X.base k x ps sp) (hr : Room k X.A) (hg : Gl X x) (ha : PA X (e :: es) t) (hdb : (x == ("__debug__" : Str)) = false := by decide)
    (he : starEach (e :: es) X.env = (false, eval e X.env) :: starEach es X.env := by rfl) (hpl : (backTo pos (starEach es X.env)).any (·.1) = false := by rfl) :
    PE X (.Call (.Name x p) (e :: es) [] pos) (tCall sp [] E0 t) := by
  obtain ⟨f, fd, F, hm, hk, hb, _⟩ := D.ex
  exact pe_call F hr hg hm hk hb .nil pass0 ha hdb he hpl
theorem pe_dn0 (D : Dn X.prog X.w X.K X.mg X.base k x ps sp) (hr : Room k X.A) (hg : Gl X x) (hdb : (x == ("__debug__" : Str)) = false := by decide) :
    PE X (.Call (.Name x p) [] [] pos) (tCall sp [] E0 tNil) := by
  obtain ⟨f, fd, F, hm, hk, hb, _⟩ := D.ex
  exact pe_call0 F hr hg hm hk hb .nil pass0 hdb
/-- a def called by keywords alone, put in the parameters' order by g -/
structure Dk (P : Program) (w : World) (K : PySem.W.Frag) (mg : Str → Option Value) (base : Heap) (k : Nat) (x : Str) (ps ks : List Str) (g : {α : Type} → List α → List α) (sp : Sp) : Prop where
  ex : ∃ (f : Addr) (fd : FuncData), FnOk P w K mg base CX0 k f fd ps sp ∧ mg x = some (.ref f) ∧ PySem.W.keepIn K (.ref f) = true ∧ ∀ (s : Shared) (ws : List Value), ws.length = ks.length → BindsTo s fd ⟨[], ks.zip ws⟩ (ps.zip (g ws))
  rel : ∀ {zs : List V} {ws : List Value}, Vals zs ws → Vals (g zs) (g ws)
def tCallW (n : Nat) (g : {α : Type} → List α → List α) (sp : Sp) (tk : TA) : TE := fun σ H Q => tk σ H fun zs H2 => zs.length = n ∧ sp (g zs) H2 Q E0
theorem pe_dk {g : {α : Type} → List α → List α} (D : Dk X.prog X.w X.K X.mg X.base k x ps ks g sp) (hr : Room k X.A) (hg : Gl X x) (hkw : PK X kws tk)
    (hall : (backToKw pos (keywordEach kws X.env)).all (·.1.isSome) = true := by rfl) (hks : (backToKw pos (keywordEach kws X.env)).filterMap (·.1) = ks := by rfl) (hdb : (x == ("__debug__" : Str)) = false := by decide)
    (hpl : ((backTo pos (starEach [] X.env)).any (·.1) || (backToKw pos (keywordEach kws X.env)).any (·.1.isNone)) = false := by rfl) :
    PE X (.Call (.Name x p) [] kws pos) (tCallW ks.length g sp tk) := by
  obtain ⟨f, fd, F, hm, hk, hb⟩ := D.ex
  refine ⟨fun pins s σ H Q I h => wpAny_Call_Name_kw (ld_glob I hg hm ?_ hdb)⟩
  refine PySem.W.callWith_KW0 (h₀ := X.base) I.ok.mod.kin hk hall (thn (hkw.run pos pins s σ H _ I h) fun ws s2 ⟨zs, H2, I2, rz, l1, q⟩ => ⟨I2.kIn, ?_⟩) hpl
  rw [hks]
  refine wpAny_call (codeAny_mono (F.run X.A X.stack s2 H2 ⟨[], ks.zip ws⟩ (g ws) (g zs) Q E0 hr I2.env0 (hb s2 ws (by rw [← rz.length, l1])) (D.rel rz) q) fun r s3 hq => ?_)
  cases r with
  | error e => exact False.elim hq
  | ok fl =>
    cases fl with
    | ret u => exact I2.after hq
    | next => exact False.elim hq
    | brk => exact False.elim hq
    | cont => exact False.elim hq
end

/-! ### the built-in names that stand for themselves; the one constant -/
structure Bi (mg : Str → Option Value) : Prop where
  isinstance : mg "isinstance" = none
  list : mg "list" = none
  tuple : mg "tuple" = none
  range : mg "range" = none
  sorted : mg "sorted" = none
  set : mg "set" = none
  abs : mg "abs" = none
  int : mg "int" = none
  enumerate : mg "enumerate" = none
  zip : mg "zip" = none
  all : mg "all" = none
  min : mg "min" = none
  max : mg "max" = none
  len : mg "len" = none
  bool : mg "bool" = none
  str : mg "str" = none
  ear : ∃ t, mg "EARLIEST" = some (.int (-9) t)

/-! ### heaps -/
theorem sn {H : Hp} {p : Addr} {o : HO} (h : H p = none) : Same H (upd H p o) := fun b u e => by
  rw [upd_ne (ne_of_none e h)]
  exact e
/-- all but the list at t is as it was -/
def Sx (t : Addr) (H H' : Hp) : Prop := ∀ b o, b ≠ t → H b = some o → H' b = some o
theorem Sx.refl (t : Addr) (H : Hp) : Sx t H H := fun _ _ _ h => h
theorem Sx.trans {t : Addr} {H H1 H2 : Hp} (a : Sx t H H1) (b : Sx t H1 H2) : Sx t H H2 := fun c o n h => b c o n (a c o n h)
theorem _root_.L2.Same.sx {t : Addr} {H H' : Hp} (e : Same H H') : Sx t H H' := fun b o _ h => e b o h
theorem Sx.upd {t : Addr} {H : Hp} {o : HO} : Sx t H (upd H t o) := fun b u n h => by rw [upd_ne n]; exact h

/-! ### data in a heap -/
mutual
inductive DR (H : Hp) : V → PyData → Prop
  | non : DR H .non .none
  | bl (b : Bool) : DR H (.bl b) (.bool b)
  | int (i : Int) : DR H (.int i) (.int i)
  | tup {a : Addr} {xs : List V} {ds : List PyData} : H a = some (.tup xs) → DRs H xs ds → DR H (.ref a) (.tuple ds)
  | lst {a : Addr} {xs : List V} {ds : List PyData} : H a = some (.lst xs) → DRs H xs ds → DR H (.ref a) (.list ds)
inductive DRs (H : Hp) : List V → List PyData → Prop
  | nil : DRs H [] []
  | cons {v : V} {vs : List V} {d : PyData} {ds : List PyData} : DR H v d → DRs H vs ds → DRs H (v :: vs) (d :: ds)
end
mutual
theorem DR.mono {H H' : Hp} (e : Same H H') : ∀ {v : V} (d : PyData), DR H v d → DR H' v d
  | _, .none, h => by cases h; exact .non
  | _, .bool _, h => by cases h; exact .bl _
  | _, .int _, h => by cases h; exact .int _
  | _, .str _, h => by cases h
  | _, .dict _, h => by cases h
  | _, .tuple ds, h => by cases h with | tup h1 h2 => exact .tup (e _ _ h1) (DRs.mono e ds h2)
  | _, .list ds, h => by cases h with | lst h1 h2 => exact .lst (e _ _ h1) (DRs.mono e ds h2)
theorem DRs.mono {H H' : Hp} (e : Same H H') : ∀ {vs : List V} (ds : List PyData), DRs H vs ds → DRs H' vs ds
  | _, [], h => by cases h; exact .nil
  | _, d :: ds, h => by cases h with | cons h1 h2 => exact .cons (DR.mono e d h1) (DRs.mono e ds h2)
end
mutual
theorem DR.dp {K : PySem.W.Frag} {H : Hp} : ∀ {v : V} (d : PyData), DR H v d → Dp K H v d
  | _, .none, h => by cases h; exact .non
  | _, .bool _, h => by cases h; exact .bl _
  | _, .int _, h => by cases h; exact .int _
  | _, .str _, h => by cases h
  | _, .dict _, h => by cases h
  | _, .tuple ds, h => by cases h with | tup h1 h2 => exact .tup (SqT.of h1) (DRs.dp ds h2)
  | _, .list ds, h => by cases h with | lst h1 h2 => exact .lst (SqL.of h1) (DRs.dp ds h2)
theorem DRs.dp {K : PySem.W.Frag} {H : Hp} : ∀ {vs : List V} (ds : List PyData), DRs H vs ds → DpAll K H vs ds
  | _, [], h => by cases h; exact .nil
  | _, d :: ds, h => by cases h with | cons h1 h2 => exact .cons (DR.dp d h1) (DRs.dp ds h2)
end
theorem DRs.len {H : Hp} : ∀ {vs : List V} (ds : List PyData), DRs H vs ds → vs.length = ds.length
  | _, [], h => by cases h; rfl
  | _, d :: ds, h => by cases h with | cons h1 h2 => rw [List.length_cons, List.length_cons, DRs.len ds h2]
theorem DRs.app {H : Hp} : ∀ {vs ws : List V} {ds es : List PyData}, DRs H vs ds → DRs H ws es → DRs H (vs ++ ws) (ds ++ es)
  | _, _, [], _, .nil, k => k
  | _, _, _ :: _, _, .cons h t, k => .cons h (DRs.app t k)
/-! data without a list in it stand as long as the tuples do -/
mutual
def noL : PyData → Bool
  | .none => true
  | .int _ => true
  | .tuple ds => noLs ds
  | _ => false
def noLs : List PyData → Bool
  | [] => true
  | d :: ds => noL d && noLs ds
end
def St0 (H H' : Hp) : Prop := ∀ b xs, H b = some (.tup xs) → H' b = some (.tup xs)
theorem _root_.L2.Same.t0 {H H' : Hp} (e : Same H H') : St0 H H' := fun b xs h => e b _ h
theorem Sx.t0 {t : Addr} {H H' : Hp} {xs : List V} (e : Sx t H H') (h : H t = some (.lst xs)) : St0 H H' := fun b ys hb => e b _ (fun z => by rw [z, h] at hb; cases hb) hb
mutual
theorem DR.keep {H H' : Hp} (e : St0 H H') : ∀ {v : V} (d : PyData), noL d = true → DR H v d → DR H' v d
  | _, .none, _, h => by cases h; exact .non
  | _, .bool _, n, _ => by simp [noL] at n
  | _, .int _, _, h => by cases h; exact .int _
  | _, .str _, _, h => by cases h
  | _, .dict _, _, h => by cases h
  | _, .list _, n, _ => by simp [noL] at n
  | _, .tuple ds, n, h => by cases h with | tup h1 h2 => exact .tup (e _ _ h1) (DRs.keep e ds (by simpa [noL] using n) h2)
theorem DRs.keep {H H' : Hp} (e : St0 H H') : ∀ {vs : List V} (ds : List PyData), noLs ds = true → DRs H vs ds → DRs H' vs ds
  | _, [], _, h => by cases h; exact .nil
  | _, d :: ds, n, h => by
    simp only [noLs, Bool.and_eq_true] at n
    cases h with
    | cons h1 h2 => exact .cons (DR.keep e d n.1 h1) (DRs.keep e ds n.2 h2)
end

/-! ### VERSIONS in a heap -/
def TupAt (H : Hp) (v : V) (w : Ver) : Prop := ∃ p, v = .ref p ∧ H p = some (.tup (w.l.map V.int))
def VerAt (H : Hp) (v : V) (w : Ver) : Prop := ∃ p, v = .ref p ∧ (H p = some (.tup (w.l.map V.int)) ∨ H p = some (.lst (w.l.map V.int)))
theorem TupAt.ver {H : Hp} {v : V} {w : Ver} (h : TupAt H v w) : VerAt H v w := let ⟨p, e, q⟩ := h; ⟨p, e, .inl q⟩
theorem TupAt.mono {H H' : Hp} {v : V} {w : Ver} (e : Same H H') (h : TupAt H v w) : TupAt H' v w := let ⟨p, a, q⟩ := h; ⟨p, a, e _ _ q⟩
theorem TupAt.keep {H H' : Hp} {v : V} {w : Ver} (e : St0 H H') (h : TupAt H v w) : TupAt H' v w := let ⟨p, a, q⟩ := h; ⟨p, a, e _ _ q⟩
theorem VerAt.mono {H H' : Hp} {v : V} {w : Ver} (e : Same H H') (h : VerAt H v w) : VerAt H' v w := let ⟨p, a, q⟩ := h; ⟨p, a, q.imp (e _ _) (e _ _)⟩
def dV (w : Ver) : PyData := .tuple (w.l.map .int)
def dO : Option Ver → PyData
  | none => .none
  | some w => dV w
def dI : Option Int → PyData
  | none => .none
  | some i => .int i
def dN : Option Nat → PyData
  | none => .none
  | some i => .int i
theorem drs_ints {H : Hp} : ∀ ns : List Int, DRs H (ns.map V.int) (ns.map .int)
  | [] => .nil
  | _ :: ns => .cons (.int _) (drs_ints ns)
theorem of_drs_ints {H : Hp} : ∀ {vs : List V} (ns : List Int), DRs H vs (ns.map .int) → vs = ns.map V.int
  | _, [], h => by cases h; rfl
  | _, n :: ns, h => by
    have h' : DRs H _ (.int n :: ns.map .int) := h
    cases h' with
    | cons h1 h2 =>
      cases h1
      rw [of_drs_ints ns h2]
      rfl
theorem TupAt.dr {H : Hp} {v : V} {w : Ver} (h : TupAt H v w) : DR H v (dV w) := by
  obtain ⟨p, rfl, q⟩ := h
  exact .tup q (drs_ints w.l)
theorem tupAt_of {H : Hp} {v : V} {w : Ver} (h : DR H v (dV w)) : TupAt H v w := by
  unfold dV at h
  cases h with
  | tup h1 h2 => exact ⟨_, rfl, by rw [h1, of_drs_ints _ h2]⟩
theorem noL_ints : ∀ ns : List Int, noLs (ns.map .int) = true
  | [] => rfl
  | _ :: ns => by
    show (noL (.int _) && noLs (ns.map .int)) = true
    rw [noL_ints ns]
    rfl
theorem noL_dV (w : Ver) : noL (dV w) = true := noL_ints w.l
theorem noL_dO (o : Option Ver) : noL (dO o) = true := by cases o with | none => rfl | some w => exact noL_dV w
theorem noL_dI (o : Option Int) : noL (dI o) = true := by cases o <;> rfl
theorem noL_dN (o : Option Nat) : noL (dN o) = true := by cases o <;> rfl
/-- a VERSION's number at a written place -/
theorem ixv {K : PySem.W.Frag} {H : Hp} {v : V} {w : Ver} {i n : Int} {Q : VK} (h : VerAt H v w) (e : atI w.l i = some n) (q : Q (.int n) H) : rIx K v (.int i) H Q := by
  obtain ⟨p, rfl, z⟩ := h
  have e' : atI (w.l.map V.int) i = some (.int n) := by
    unfold atI at e ⊢
    rw [List.length_map]
    cases hx : ixN w.l.length i with
    | none => rw [hx] at e; cases e
    | some j =>
      rw [hx] at e
      simp only [Option.bind_some] at e ⊢
      rw [List.getElem?_map, e]
      rfl
  rcases z with z | z
  · exact .inr (.inl ⟨p, _, i, _, rfl, rfl, SqT.of z, e', q⟩)
  · exact .inl ⟨p, _, i, _, rfl, rfl, SqL.of z, e', q⟩
theorem atV0 {w : Ver} : atI w.l 0 = some w.a := atI_nat (j := 0) rfl
theorem atV1 {w : Ver} : atI w.l 1 = some w.b := atI_nat (j := 1) rfl
theorem atV2 {w : Ver} : atI w.l 2 = some w.c := atI_nat (j := 2) rfl
theorem atV3 {w : Ver} : atI w.l 3 = some w.d := atI_nat (j := 3) rfl
theorem atVn {w : Ver} {j : Nat} (h : j < 4) : atI w.l (j : Int) = some (w.l.getD j 0) := atI_nat (by
  rw [List.getD_eq_getElem?_getD]
  have hl : j < w.l.length := h
  rw [List.getElem?_eq_getElem hl]
  rfl)

/-! ### what kind a value is -/
def headOf : PyData → String
  | .none => "NoneType"
  | .bool _ => "bool"
  | .int _ => "int"
  | .str _ => "str"
  | .list _ => "list"
  | .tuple _ => "tuple"
  | .dict _ => "dict"
theorem DR.ty {K : PySem.W.Frag} {H : Hp} {v : V} {d : PyData} (h : DR H v d) : TyX K H v (.type (headOf d)) := by
  cases h with
  | non => exact .base .non
  | bl b => exact .base (.bl b)
  | int i => exact .base (.int i)
  | tup h1 _ => exact .base (.tup h1)
  | lst h1 _ => exact .base (.lst h1)
theorem isi {K : PySem.W.Frag} {H : Hp} {v : V} {d : PyData} {T : String} {b : Bool} {Q : VK} (h : DR H v d) (e : kitB (headOf d) T = some b) (q : Q (.bl b) H) : rIsi K [v, .ty T] H Q :=
  ⟨v, .ty T, _, _, b, rfl, .ty T, h.ty, kit_ty e, q⟩
theorem isi2 {K : PySem.W.Frag} {H : Hp} {v : V} {d : PyData} {S T : String} {a b : Bool} {tp : Addr} {Q : VK} (h : DR H v d) (ht : H tp = some (.tup [.ty S, .ty T])) (e1 : kitB (headOf d) S = some a) (e2 : kitB (headOf d) T = some b) (q : Q (.bl (a || b)) H) : rIsiT K [v, .ref tp] H Q := by
  refine ⟨v, tp, _, _, _, a || b, rfl, ht, .cons (.ty S) (.cons (.ty T) .nil), h.ty, ?_, q⟩
  refine kitAny_cons (kit_ty e1) (fun z => ?_) (fun z => by rw [z]; rfl)
  rw [z]
  exact kitAny_cons (kit_ty e2) (fun z => by rw [z]; exact kitAny_nil) (fun z => by rw [z]; rfl)
theorem fewL {n : Nat} (h : n ≤ 1000) : n ≤ sizeLine := Nat.le_of_lt (small1000 h)

/-! ### promises -/
/-- of one VERSION (a tuple or a list): data, the heap but grown -/
def p1 (f : Ver → PyData) : Sp := fun vs H Q _ => ∃ v w, vs = [v] ∧ VerAt H v w ∧ w.Ok ∧ ∀ r H', Same H H' → DR H' r (f w) → Q r H'
def p2 (f : Ver → Ver → PyData) : Sp := fun vs H Q _ => ∃ v w x y, vs = [v, w] ∧ VerAt H v x ∧ VerAt H w y ∧ x.Ok ∧ y.Ok ∧ ∀ r H', Same H H' → DR H' r (f x y) → Q r H'
def p1i (f : Ver → Int → PyData) : Sp := fun vs H Q _ => ∃ v w i, vs = [v, .int i] ∧ VerAt H v w ∧ w.Ok ∧ ∀ r H', Same H H' → DR H' r (f w i) → Q r H'
/-- of VERSIONS that are tuples -/
def t1 (f : Ver → PyData) : Sp := fun vs H Q _ => ∃ v w, vs = [v] ∧ TupAt H v w ∧ w.Ok ∧ ∀ r H', Same H H' → DR H' r (f w) → Q r H'
def t2 (f : Ver → Ver → PyData) : Sp := fun vs H Q _ => ∃ v w x y, vs = [v, w] ∧ TupAt H v x ∧ TupAt H w y ∧ x.Ok ∧ y.Ok ∧ ∀ r H', Same H H' → DR H' r (f x y) → Q r H'
theorem p1.len {f : Ver → PyData} {vs : List V} {H : Hp} {Q : VK} {E : XK} (h : p1 f vs H Q E) : vs.length = 1 := by obtain ⟨_, _, rfl, _⟩ := h; rfl
theorem p2.len {f : Ver → Ver → PyData} {vs : List V} {H : Hp} {Q : VK} {E : XK} (h : p2 f vs H Q E) : vs.length = 2 := by obtain ⟨_, _, _, _, rfl, _⟩ := h; rfl
theorem p1i.len {f : Ver → Int → PyData} {vs : List V} {H : Hp} {Q : VK} {E : XK} (h : p1i f vs H Q E) : vs.length = 2 := by obtain ⟨_, _, _, rfl, _⟩ := h; rfl
theorem t1.len {f : Ver → PyData} {vs : List V} {H : Hp} {Q : VK} {E : XK} (h : t1 f vs H Q E) : vs.length = 1 := by obtain ⟨_, _, rfl, _⟩ := h; rfl
theorem t2.len {f : Ver → Ver → PyData} {vs : List V} {H : Hp} {Q : VK} {E : XK} (h : t2 f vs H Q E) : vs.length = 2 := by obtain ⟨_, _, _, _, rfl, _⟩ := h; rfl

/-- a def of the text as it stands behind the top -/
structure De (K : PySem.W.Frag) (mg : Str → Option Value) (x : Str) (st : Stmt) (ps : List Str) : Prop where
  ex : ∃ (f : Addr) (fd : FuncData), Fun K x x st f fd ∧ mg x = some (.ref f) ∧ Binds K fd ps []
theorem lk_of {K : PySem.W.Frag} {x : Str} {st : Stmt} {f : Addr} {fd : FuncData} (F : Fun K x x st f fd) : Lk K f fd :=
  let ⟨oc, od, _, _, _, _, _, _, osl, _, h, _⟩ := F.ex
  ⟨oc, od, osl, h⟩
theorem De.dn {P : Program} {w : World} {K : PySem.W.Frag} {mg : Str → Option Value} {base : Heap} {x : Str} {st : Stmt} {ps : List Str} {k : Nat} {sp : Sp} (D : De K mg x st ps) (h : ∀ f fd, Fun K x x st f fd → FnOk P w K mg base CX0 k f fd ps sp) : Dn P w K mg base k x ps sp :=
  let ⟨f, fd, F, m, b⟩ := D.ex
  ⟨f, fd, h f fd F, m, F.kp, b, lk_of F⟩
theorem Dn.mono {P : Program} {w : World} {K : PySem.W.Frag} {mg : Str → Option Value} {base : Heap} {x : Str} {ps : List Str} {j k : Nat} {sp : Sp} (D : Dn P w K mg base j x ps sp) (h : j ≤ k) : Dn P w K mg base k x ps sp :=
  let ⟨f, fd, F, m, kp, b⟩ := D.ex
  ⟨f, fd, F.mono h, m, kp, b⟩

theorem Ver.unlike_some {v w : Ver} {i : Nat} (hi : i < 4) (h : ∀ j, j < i → v.l.getD j 0 = w.l.getD j 0) (ne : v.l.getD i 0 ≠ w.l.getD i 0) : Ver.unlike v w = some i := by
  unfold Ver.unlike
  match i, hi with
  | 0, _ => exact if_pos ne
  | 1, _ =>
    have h0 : v.a = w.a := h 0 (by decide)
    rw [if_neg (fun z => z h0), if_pos (show v.b ≠ w.b from ne)]
  | 2, _ =>
    have h0 : v.a = w.a := h 0 (by decide)
    have h1 : v.b = w.b := h 1 (by decide)
    rw [if_neg (fun z => z h0), if_neg (fun z => z h1), if_pos (show v.c ≠ w.c from ne)]
  | 3, _ =>
    have h0 : v.a = w.a := h 0 (by decide)
    have h1 : v.b = w.b := h 1 (by decide)
    have h2 : v.c = w.c := h 2 (by decide)
    rw [if_neg (fun z => z h0), if_neg (fun z => z h1), if_neg (fun z => z h2), if_pos (show v.d ≠ w.d from ne)]
theorem Ver.unlike_none {v w : Ver} (h : ∀ j, j < 4 → v.l.getD j 0 = w.l.getD j 0) : Ver.unlike v w = none := by
  have h0 : v.a = w.a := h 0 (by decide)
  have h1 : v.b = w.b := h 1 (by decide)
  have h2 : v.c = w.c := h 2 (by decide)
  have h3 : v.d = w.d := h 3 (by decide)
  unfold Ver.unlike
  rw [if_neg (fun z => z h0), if_neg (fun z => z h1), if_neg (fun z => z h2), if_neg (fun z => z h3)]
theorem Ver.unlike_inv {v w : Ver} {i : Nat} (h : Ver.unlike v w = some i) : i < 4 := by
  unfold Ver.unlike at h
  repeat' split at h
  all_goals (cases h <;> decide)
theorem ne_dec {i j : Int} (h : (!decide (V.int i = V.int j)) = true) : i ≠ j := fun e => by rw [e] at h; simp at h
theorem eq_dec {i j : Int} (h : ¬ (!decide (V.int i = V.int j)) = true) : i = j := by
  by_cases e : i = j
  · exact e
  · exact absurd (by simp [e]) h

section
variable {P : Program} {w : World} {K : PySem.W.Frag} {mg : Str → Option Value} {base : Heap}

def spEarly : Sp := fun vs H Q _ => ∃ v w, vs = [v] ∧ VerAt H v w ∧ Q (.bl (decide (w.d < 0))) H
theorem d_is_early (E : De K mg "is_early" s_is_early P_is_early) : Dn P w K mg base 1 "is_early" P_is_early spEarly :=
  E.dn fun f fd F => F.ok sc_is_early (fun vs H Q E h => by obtain ⟨_, _, rfl, _⟩ := h; rfl) fun cdv A outer s H vs Q E hr h => by
    obtain ⟨v, w, rfl, hv, q⟩ := h
    refine ⟨_, (pss_one (ps_ret (pe_cmpR op_lt (pe_ix ix_seq (pv 0) pe_int (fun _ _ => rfl)) pe_int (nomark _)))), ?_⟩
    exact ⟨v, rfl, ixv hv atV3 ⟨_, _, rfl, rfl, q⟩⟩

theorem d_first_unlike (B : Bi mg) (E : De K mg "first_unlike" s_first_unlike P_first_unlike) : Dn P w K mg base 1 "first_unlike" P_first_unlike (p2 fun x y => dN (Ver.unlike x y)) :=
  E.dn fun f fd F => F.ok sc_first_unlike (fun vs H Q E h => h.len) fun cdv A outer s H vs Q E hr h => by
    obtain ⟨v, w, x, y, rfl, hv, hw, _, _, q⟩ := h
    refine ⟨_, (pss_cons (ps_for PassesOwn.never rfl (pi_range1 (by rfl) B.range (pa_cons pe_int pa_nil)) (pg_name (i := 2) sc_first_unlike.nd rfl (Or.inl rfl)) (pss_one (ps_if (pt_cmpR op_ne (pe_ix ix_seq (pv 0) (pv 2) (fun _ _ => rfl)) (pe_ix ix_seq (pv 1) (pv 2) (fun _ _ => rfl)) (nomark _)) (pss_one (ps_ret (pv 2))) pss_nil)))
      (pss_one (ps_ret pe_non))), ?_⟩
    refine ⟨4, rfl, by decide, by decide, for_range (lo := 0) (n := 4) (fun i σ H' => (∃ z, σ = [some v, some w, z]) ∧ H' = H ∧ ∀ j, j < i → x.l.getD j 0 = y.l.getD j 0) ⟨⟨none, rfl⟩, rfl, fun j hj => absurd hj (Nat.not_lt_zero j)⟩ ?_ ?_⟩
    · rintro i σ H' hi ⟨⟨z, rfl⟩, rfl, hs⟩
      have e : (0 : Int) + (i : Int) = (i : Int) := by omega
      rw [e]
      refine ⟨v, rfl, _, rfl, ixv hv (atVn hi) ⟨w, rfl, _, rfl, ixv hw (atVn hi) ⟨rfl, _, rfl, ?_⟩⟩⟩
      refine ite2 (fun c => ?_) (fun c => ?_)
      · refine ⟨_, rfl, q _ _ (Same.refl _) ?_⟩
        dsimp only
        rw [Ver.unlike_some hi hs (ne_dec c)]
        exact .int _
      · refine ⟨⟨_, rfl⟩, rfl, fun j hj => ?_⟩
        by_cases hj2 : j < i
        · exact hs j hj2
        · have : j = i := by omega
          subst this
          exact eq_dec c
    · rintro σ H' ⟨_, rfl, hs⟩
      refine q _ _ (Same.refl _) ?_
      dsimp only
      rw [Ver.unlike_none hs]
      exact .non

theorem d_compared (E : De K mg "compared" s_compared P_compared) (D_first_unlike : Dn P w K mg base 1 "first_unlike" P_first_unlike (p2 fun x y => dN (Ver.unlike x y))) :
    Dn P w K mg base 2 "compared" P_compared (p2 fun x y => .int (Ver.comp x y)) :=
  E.dn fun f fd F => F.ok sc_compared (fun vs H Q E h => h.len) fun cdv A outer s H vs Q E hr h => by
    obtain ⟨v, w, x, y, rfl, hv, hw, ox, oy, q⟩ := h
    refine ⟨_, (pss_cons (ps_set (i := 2) sc_compared.nd rfl (Or.inl rfl) (pe_dn D_first_unlike (hr.mono (by decide)) rfl (pa_cons (pv 0) (pa_cons (pv 1) pa_nil))))
      (pss_cons (ps_if (pt_cmpR op_isN (pv 2) pe_non (nomark _)) (pss_one (ps_ret pe_int)) pss_nil)
      (pss_one (ps_ret (pe_ifExp (pt_cmpR op_gt (pe_ix ix_seq (pv 0) (pv 2) (fun _ _ => rfl)) (pe_ix ix_seq (pv 1) (pv 2) (fun _ _ => rfl)) (nomark _)) pe_int (pe_un un_neg pe_int)))))), ?_⟩
    refine ⟨v, rfl, w, rfl, v, w, x, y, rfl, hv, hw, ox, oy, fun r H1 sm dr => ?_⟩
    dsimp only at dr
    cases hp : Ver.unlike x y with
    | none =>
      rw [hp] at dr
      cases dr
      refine ⟨_, rfl, rfl, _, rfl, iteT (q _ _ sm ?_)⟩
      dsimp only
      unfold Ver.comp
      rw [hp]
      exact .int 0
    | some p =>
      rw [hp] at dr
      cases dr
      refine ⟨_, rfl, rfl, _, rfl, iteF ?_⟩
      have hi := Ver.unlike_inv hp
      refine ⟨v, rfl, _, rfl, ixv (hv.mono sm) (atVn hi) ⟨w, rfl, _, rfl, ixv (hw.mono sm) (atVn hi) ⟨_, _, rfl, rfl, _, rfl, ?_⟩⟩⟩
      refine ite2 (fun c => q _ _ sm ?_) (fun c => ⟨1, rfl, q _ _ sm ?_⟩)
      · dsimp only
        unfold Ver.comp
        rw [hp]
        dsimp only
        rw [if_pos (of_decide_eq_true c)]
        exact .int 1
      · dsimp only
        unfold Ver.comp
        rw [hp]
        dsimp only
        rw [if_neg (fun z => c (decide_eq_true z))]
        exact .int (-1)

theorem d_rank_among (B : Bi mg) (E : De K mg "rank_among" s_rank_among P_rank_among) : Dn P w K mg base 1 "rank_among" P_rank_among (p1 fun x => .int x.rank) :=
  E.dn fun f fd F => F.ok sc_rank_among (fun vs H Q E h => h.len) fun cdv A outer s H vs Q E hr h => by
    obtain ⟨v, x, rfl, hv, ox, q⟩ := h
    obtain ⟨t, mE⟩ := B.ear
    refine ⟨_, (pss_one (ps_ret (pe_op op_sub (pe_op op_add (pe_op op_mul pe_int (pe_ix ix_seq (pv 0) pe_int (fun _ _ => rfl))) (pe_ix ix_seq (pv 0) pe_int (fun _ _ => rfl))) (pe_glob (v := .int (-9)) rfl mE ⟨_, rfl⟩)))), ?_⟩
    refine ⟨v, rfl, ixv hv atV2 ⟨10, _, rfl, rfl, .inl ⟨by decide, by decide⟩, v, rfl, ixv hv atV3 ⟨_, _, rfl, rfl, _, _, rfl, rfl, q _ _ (Same.refl _) ?_⟩⟩⟩
    have e : 10 * x.c + x.d - -9 = x.rank := by unfold Ver.rank; omega
    dsimp only
    rw [e]
    exact .int _

theorem d_steps_on (B : Bi mg) (E : De K mg "steps_on" s_steps_on P_steps_on) (D_rank_among : Dn P w K mg base 1 "rank_among" P_rank_among (p1 fun x => .int x.rank)) :
    Dn P w K mg base 2 "steps_on" P_steps_on (p1i fun x m => dO (x.on m)) :=
  E.dn fun f fd F => F.ok sc_steps_on (fun vs H Q E h => h.len) fun cdv A outer s H vs Q E hr h => by
    obtain ⟨v, x, m, rfl, hv, ox, q⟩ := h
    obtain ⟨t, mE⟩ := B.ear
    refine ⟨_, (pss_cons (ps_set (i := 2) sc_steps_on.nd rfl (Or.inl rfl) (pe_op op_add (pe_dn D_rank_among (hr.mono (by decide)) rfl (pa_cons (pv 0) pa_nil)) (pv 1)))
      (pss_cons (ps_if (pt_cmpR op_lt (pv 2) pe_int (nomark _)) (pss_one (ps_ret pe_non)) pss_nil)
      (pss_one (ps_ret (pe_tup (pa_cons (pe_ix ix_seq (pv 0) pe_int (fun _ _ => rfl)) (pa_cons (pe_ix ix_seq (pv 0) pe_int (fun _ _ => rfl)) (pa_cons (pe_op op_fdiv (pv 2) pe_int) (pa_cons (pe_op op_add (pe_op op_mod (pv 2) pe_int) (pe_glob (v := .int (-9)) rfl mE ⟨_, rfl⟩)) pa_nil))))))))), ?_⟩
    refine ⟨v, rfl, v, x, rfl, hv, ox, fun r H1 sm dr => ?_⟩
    cases dr
    refine ⟨_, rfl, _, _, rfl, rfl, _, rfl, _, _, rfl, rfl, _, rfl, ?_⟩
    refine ite2 (fun c => q _ _ sm ?_) (fun c => ?_)
    · dsimp only
      unfold Ver.on
      rw [if_pos (of_decide_eq_true c)]
      exact .non
    · have c' : ¬ x.rank + m < 0 := fun z => c (decide_eq_true z)
      have hv1 := hv.mono sm
      refine ⟨v, rfl, ixv hv1 atV0 ⟨v, rfl, ixv hv1 atV1 ⟨_, rfl, _, _, rfl, rfl, ⟨by decide, by decide⟩, _, rfl, _, _, rfl, rfl, (by show (0 : Int) < 10; decide), _, _, rfl, rfl, (by show 4 ≤ sizeLine; decide), fun p hp => q _ _ (sm.trans (sn hp)) ?_⟩⟩⟩
      dsimp only
      unfold Ver.on
      rw [if_neg c']
      exact TupAt.dr ⟨p, rfl, upd_same⟩

theorem d_next_version (E : De K mg "next_version" s_next_version P_next_version) (D_steps_on : Dn P w K mg base 2 "steps_on" P_steps_on (p1i fun x m => dO (x.on m))) :
    Dn P w K mg base 3 "next_version" P_next_version (p1 fun x => dV x.next) :=
  E.dn fun f fd F => F.ok sc_next_version (fun vs H Q E h => h.len) fun cdv A outer s H vs Q E hr h => by
    obtain ⟨v, x, rfl, hv, ox, q⟩ := h
    refine ⟨_, (pss_one (ps_ret (pe_dn D_steps_on (hr.mono (by decide)) rfl (pa_cons (pv 0) (pa_cons pe_int pa_nil))))), ?_⟩
    refine ⟨v, rfl, v, x, 1, rfl, hv, ox, fun r H1 sm dr => q _ _ sm ?_⟩
    have dr : DR H1 r (dO (x.on 1)) := dr
    rw [Ver.on_one ox] at dr
    exact dr

theorem d_version_ahead (E : De K mg "version_ahead" s_version_ahead P_version_ahead) (D_steps_on : Dn P w K mg base 2 "steps_on" P_steps_on (p1i fun x m => dO (x.on m))) :
    Dn P w K mg base 3 "version_ahead" P_version_ahead (p1 fun x => dO x.ahead) :=
  E.dn fun f fd F => F.ok sc_version_ahead (fun vs H Q E h => h.len) fun cdv A outer s H vs Q E hr h => by
    obtain ⟨v, x, rfl, hv, ox, q⟩ := h
    refine ⟨_, (pss_one (ps_ret (pe_dn D_steps_on (hr.mono (by decide)) rfl (pa_cons (pv 0) (pa_cons (pe_un un_neg pe_int) pa_nil))))), ?_⟩
    refine ⟨v, rfl, _, rfl, v, x, -1, rfl, hv, ox, fun r H1 sm dr => q _ _ sm ?_⟩
    have dr : DR H1 r (dO (x.on (-1))) := dr
    rw [Ver.on_back ox] at dr
    exact dr
end

/-! ### slices from the left, of a tuple or a list -/
theorem cut_to (xs : List V) (k : Nat) : cutV xs none (some (k : Int)) = xs.take k := by
  unfold cutV
  rw [HT.sIx_none, HT.sIx_nat, List.drop_zero, Nat.sub_zero]
  exact (List.take_eq_take_min (i := k) (l := xs)).symm
def rSlV (K : PySem.W.Frag) : V → Option Int → Option Int → Hp → VK → Prop := fun x lo hi H Q => rSlL K x lo hi H Q ∨ rSlA K x lo hi H Q
theorem slx {X : Cx} : SlR X (rSlV X.K) := sl_list.or sl_tupA
def rTupOf (K : PySem.W.Frag) : List V → Hp → VK → Prop := fun xs H Q => ∃ p ys, xs = [.ref p] ∧ ((SqL K H p ys ∧ ∀ l, H l = none → Q (.ref l) (upd H l (.tup ys))) ∨ (SqT K H p ys ∧ Q (.ref p) H))
theorem call_tup {X : Cx} : CallR X (.type "tuple") (rTupOf X.K) := call_tuple_of
/-- v[:k], a tuple or a list as v is -/
theorem cutv {K : PySem.W.Frag} {H : Hp} {v : V} {w : Ver} {k : Nat} {Q : VK} (h : VerAt H v w) (hk : k < 4) (q : ∀ p H' o, Same H H' → H p = none → (o = .tup ((w.l.take k).map V.int) ∨ o = .lst ((w.l.take k).map V.int)) → H' = upd H p o → Q (.ref p) H') :
    rSlV K v none (some (k : Int)) H Q := by
  obtain ⟨p, rfl, z⟩ := h
  rcases z with z | z
  · refine .inr ⟨p, _, rfl, SqT.of z, fun e => ?_, fun _ r hr => ?_⟩
    · have e2 := e.2
      rw [HT.sIx_nat, List.length_map] at e2
      have : min k 4 = 4 := e2
      omega
    · rw [cut_to, ← List.map_take]
      exact q r _ _ (sn hr) hr (.inl rfl) rfl
  · refine .inl ⟨p, _, rfl, SqL.of z, fun r hr => ?_⟩
    rw [cut_to, ← List.map_take]
    exact q r _ _ (sn hr) hr (.inr rfl) rfl
theorem rd_nil {σ : L2.St} {H : Hp} {F : List V → Hp → Prop} (h : F [] H) : tNil σ H F := h
/-- tuple(x), x a tuple or a list -/
theorem tupOf {K : PySem.W.Frag} {H : Hp} {p : Addr} {xs : List V} {Q : VK} (h : H p = some (.tup xs) ∨ H p = some (.lst xs)) (q : ∀ r H', Same H H' → H' r = some (.tup xs) → Q (.ref r) H') : rTupOf K [.ref p] H Q := by
  rcases h with h | h
  · exact ⟨p, _, rfl, .inr ⟨SqT.of h, q p _ (Same.refl _) h⟩⟩
  · exact ⟨p, _, rfl, .inl ⟨SqL.of h, fun l hl => q l _ (sn hl) upd_same⟩⟩
theorem cut_or {H H' : Hp} {p : Addr} {o : HO} {xs : List V} (h : o = .tup xs ∨ o = .lst xs) (e : H' = upd H p o) : H' p = some (.tup xs) ∨ H' p = some (.lst xs) := by
  subst e
  rcases h with rfl | rfl
  · exact .inl upd_same
  · exact .inr upd_same

/-! ### == and != of data -/
theorem eqv_ints : ∀ ns ms : List Int, PyData.eqvAll (ns.map .int) (ms.map .int) = decide (ns = ms)
  | [], [] => rfl
  | [], _ :: _ => rfl
  | _ :: _, [] => rfl
  | n :: ns, m :: ms => by
    show (n == m && PyData.eqvAll (ns.map .int) (ms.map .int)) = _
    rw [eqv_ints ns ms]
    by_cases h : n = m
    · subst h
      simp
    · simp [h]
mutual
theorem DR.lay {H : Hp} : ∀ {v : V} (d : PyData), DR H v d → d.canLay0 = true
  | _, .none, _ => rfl
  | _, .bool _, _ => rfl
  | _, .int _, _ => rfl
  | _, .str _, h => by cases h
  | _, .dict _, h => by cases h
  | _, .tuple ds, h => by cases h with | tup _ h2 => exact DRs.lay ds h2
  | _, .list ds, h => by cases h with | lst _ h2 => exact DRs.lay ds h2
theorem DRs.lay {H : Hp} : ∀ {vs : List V} (ds : List PyData), DRs H vs ds → PyData.canLayAll0 ds = true
  | _, [], _ => rfl
  | _, d :: ds, h => by
    cases h with
    | cons h1 h2 =>
      show (d.canLay0 && PyData.canLayAll0 ds) = true
      rw [DR.lay d h1, DRs.lay ds h2]
      rfl
end
theorem shape_of {H : Hp} {v : V} {d : PyData} (h : DR H v d) (hd : d.depth ≤ 64) : SeqAt.shaped d = true := by
  unfold SeqAt.shaped
  rw [h.lay, decide_eq_true hd]
  rfl
theorem depth_tup (ns : List Int) : (PyData.tuple (ns.map .int)).depth = 1 := by
  simp only [PyData.depth]
  rw [PySem.W.depth_ints]
theorem depth_vers : ∀ vs : List Ver, PyData.depthAll (vs.map dV) ≤ 1
  | [] => Nat.zero_le _
  | v :: vs => by
    show PyData.depthAll (dV v :: vs.map dV) ≤ 1
    rw [PyData.depthAll]
    have h1 : (dV v).depth = 1 := depth_tup v.l
    have h2 := depth_vers vs
    omega
def IsTupI (H : Hp) (x : V) (ns : List Int) : Prop := ∃ p, x = .ref p ∧ H p = some (.tup (ns.map V.int))
theorem IsTupI.dr {H : Hp} {x : V} {ns : List Int} (h : IsTupI H x ns) : DR H x (.tuple (ns.map .int)) := by
  obtain ⟨p, rfl, q⟩ := h
  exact .tup q (drs_ints ns)
theorem eqT {K : PySem.W.Frag} {H : Hp} {x y : V} {ns ms : List Int} {Q : VK} (hx : IsTupI H x ns) (hy : IsTupI H y ms) (q : Q (.bl (decide (ns = ms))) H) : rEqD K x y H Q := by
  refine ⟨_, _, hx.dr.dp, hy.dr.dp, shape_of hx.dr (by rw [depth_tup]; decide), shape_of hy.dr (by rw [depth_tup]; decide), ?_⟩
  show Q (.bl (PyData.eqvAll (ns.map .int) (ms.map .int))) H
  rw [eqv_ints]
  exact q
theorem neT {K : PySem.W.Frag} {H : Hp} {x y : V} {ns ms : List Int} {Q : VK} (hx : IsTupI H x ns) (hy : IsTupI H y ms) (q : Q (.bl (!decide (ns = ms))) H) : rNeD K x y H Q := by
  refine ⟨_, _, hx.dr.dp, hy.dr.dp, shape_of hx.dr (by rw [depth_tup]; decide), shape_of hy.dr (by rw [depth_tup]; decide), ?_⟩
  show Q (.bl (!PyData.eqvAll (ns.map .int) (ms.map .int))) H
  rw [eqv_ints]
  exact q
theorem drs_vers {H : Hp} : ∀ {xs : List V} (vs : List Ver), DRs H xs (vs.map dV) → xs.length = vs.length := fun vs h => by
  rw [DRs.len _ h, List.length_map]
/-- a list of VERSIONS against an empty one -/
theorem neNil {K : PySem.W.Frag} {H : Hp} {p o : Addr} {xs : List V} {vs : List Ver} {Q : VK} (hp : H p = some (.lst xs)) (h : DRs H xs (vs.map dV)) (ho : H o = some (.lst [])) (q : Q (.bl (!vs.isEmpty)) H) : rNeD K (.ref p) (.ref o) H Q := by
  have d1 : DR H (.ref p) (.list (vs.map dV)) := .lst hp h
  have d2 : DR H (.ref o) (.list []) := .lst ho .nil
  refine ⟨_, _, d1.dp, d2.dp, shape_of d1 ?_, shape_of d2 (by decide), ?_⟩
  · have := depth_vers vs
    show PyData.depthAll _ + 1 ≤ 64
    omega
  · cases vs <;> exact q

section
variable {P : Program} {w : World} {K : PySem.W.Frag} {mg : Str → Option Value} {base : Heap}

theorem d_steps_between (B : Bi mg) (E : De K mg "steps_between" s_steps_between P_steps_between) (D_rank_among : Dn P w K mg base 1 "rank_among" P_rank_among (p1 fun x => .int x.rank)) :
    Dn P w K mg base 2 "steps_between" P_steps_between (p2 fun x y => dI (Ver.btw x y)) :=
  E.dn fun f fd F => F.ok sc_steps_between (fun vs H Q E h => h.len) fun cdv A outer s H vs Q E hr h => by
    obtain ⟨v, w, x, y, rfl, hv, hw, ox, oy, q⟩ := h
    refine ⟨_, (pss_one (ps_ret (pe_ifExp (pt_cmpR (op_eqD hr.units) (pe_callTy call_tup (by rfl) B.tuple (by decide +kernel) (pa_cons (pe_slice slx (pv 0) po_none (po_some pe_int)) pa_nil)) (pe_callTy call_tup (by rfl) B.tuple (by decide +kernel) (pa_cons (pe_slice slx (pv 1) po_none (po_some pe_int)) pa_nil)) (nomark _)) (pe_op op_sub (pe_dn D_rank_among (hr.mono (by decide)) rfl (pa_cons (pv 1) pa_nil)) (pe_dn D_rank_among (hr.mono (by decide)) rfl (pa_cons (pv 0) pa_nil))) pe_non))), ?_⟩
    refine ⟨v, rfl, 2, rfl, cutv (k := 2) hv (by decide) fun p0 H0 o0 s0 n0 ho e0 => rd_nil (tupOf (cut_or ho e0) fun p H1 s1' h1 => ?_)⟩
    have s1 := s0.trans s1'
    refine ⟨w, rfl, 2, rfl, cutv (k := 2) (hw.mono s1) (by decide) fun p2 H2' o2 s2' n2 ho2 e2 => rd_nil (tupOf (cut_or ho2 e2) fun o H2 s2'' h2 => ?_)⟩
    have s2 := s2'.trans s2''
    refine eqT ⟨p, rfl, s2 _ _ h1⟩ ⟨o, rfl, h2⟩ ⟨_, rfl, ?_⟩
    have s12 := s1.trans s2
    refine ite2 (fun c => ?_) (fun c => ?_)
    · have c := of_decide_eq_true c
      have ce : x.a = y.a ∧ x.b = y.b := by
        have c' : [x.a, x.b] = [y.a, y.b] := c
        simpa using c'
      refine ⟨w, rfl, w, y, rfl, hw.mono s12, oy, fun r H3 s3 d3 => ?_⟩
      cases d3
      refine ⟨v, rfl, v, x, rfl, hv.mono (s12.trans s3), ox, fun r H4 s4 d4 => ?_⟩
      cases d4
      refine ⟨_, _, rfl, rfl, q _ _ ((s12.trans s3).trans s4) ?_⟩
      dsimp only
      unfold Ver.btw
      rw [if_pos ce]
      exact .int _
    · refine q _ _ s12 ?_
      have ce : ¬ (x.a = y.a ∧ x.b = y.b) := fun e => c (decide_eq_true (by
        show [x.a, x.b] = [y.a, y.b]
        rw [e.1, e.2]))
      dsimp only
      unfold Ver.btw
      rw [if_neg ce]
      exact .non

/-- next_release: the place is written or drawn -/
def spRel : Sp := fun vs H Q _ => ∃ v x, ∃ p : Nat, vs = [v, .int p] ∧ VerAt H v x ∧ p < 3 ∧ ∀ r H', Same H H' → DR H' r (dV (Ver.rel x p)) → Q r H'
theorem d_next_release (B : Bi mg) (E : De K mg "next_release" s_next_release P_next_release) : Dn P w K mg base 1 "next_release" P_next_release spRel :=
  E.dn fun f fd F => F.ok sc_next_release (fun vs H Q E h => by obtain ⟨_, _, _, rfl, _⟩ := h; rfl) fun cdv A outer s H vs Q E hr h => by
    obtain ⟨v, x, p, rfl, hv, hp, q⟩ := h
    refine ⟨_, (pss_one (ps_ret (pe_op op_catA (pe_op op_catA (pe_callTy call_tup (by rfl) B.tuple (by decide +kernel) (pa_cons (pe_slice slx (pv 0) po_none (po_some (pv 1))) pa_nil)) (pe_tup (pa_cons (pe_op op_add (pe_ix ix_seq (pv 0) (pv 1) (fun _ _ => rfl)) pe_int) pa_nil))) (pe_op op_times (pe_tup (pa_cons pe_int pa_nil)) (pe_op op_sub pe_int (pv 1)))))), ?_⟩
    refine ⟨v, rfl, _, rfl, _, rfl, cutv (k := p) hv (by omega) fun p0 H0 o0 s0 n0 ho e0 => rd_nil (tupOf (cut_or ho e0) fun a H1 s1' h1 => ?_)⟩
    have s1 := s0.trans s1'
    refine ⟨v, rfl, _, rfl, ixv (hv.mono s1) (atVn (by omega)) ⟨_, _, rfl, rfl, (by show 1 ≤ sizeLine; decide), fun b hb => ?_⟩⟩
    have s2 : Same H (upd H1 b (.tup [.int (x.l.getD p 0 + 1)])) := s1.trans (sn hb)
    have hab : a ≠ b := ne_of_none h1 hb
    -- both halves, then the whole
    have fin : ∀ c H3, Same H H3 → H3 c = some (.tup (((x.l.take p) ++ [x.l.getD p 0 + 1]).map V.int)) → ∀ d H4, Same H3 H4 → H4 d = some (.tup ((List.replicate (3 - p) (0 : Int)).map V.int)) → rCatA K (.ref c) (.ref d) H4 Q := by
      intro c H3 s3 hc d H4 s4 hd
      refine ⟨c, d, _, _, rfl, rfl, SqT.of (s4 _ _ hc), SqT.of hd, ?_, fun z => ?_, fun _ z => ?_, fun _ _ r hr => ?_⟩
      · rw [List.length_map, List.length_map, List.length_append, List.length_take, List.length_replicate]
        exact fewL (by show min p 4 + 1 + (3 - p) ≤ 1000; omega)
      · simp at z
      · have : (3 - p) = 0 := by simpa using z
        omega
      · refine q _ _ ((s3.trans s4).trans (sn hr)) (TupAt.dr ⟨r, rfl, ?_⟩)
        rw [upd_same, ← List.map_append]
        congr 2
        match p, hp with
        | 0, _ => rfl
        | 1, _ => rfl
        | 2, _ => rfl
    have zeros : ∀ c H3, Same H H3 → H3 c = some (.tup (((x.l.take p) ++ [x.l.getD p 0 + 1]).map V.int)) → ∀ o, H3 o = none →
        rTimes K (.ref o) (.int (3 - (p : Int))) (upd H3 o (.tup [.int 0])) fun y H4 => rCatA K (.ref c) y H4 Q := by
      intro c H3 s3 hc o ho
      refine ⟨o, _, [.int 0], rfl, rfl, SqT.of upd_same, by simp, by omega, by omega, by decide, fun e => ?_, fun e r hr => ?_⟩
      · have e2 : 3 - p = 1 := by omega
        exact fin c H3 s3 hc o _ (sn ho) (by rw [upd_same, e2]; rfl)
      · refine fin c H3 s3 hc r _ ((sn ho).trans (sn hr)) ?_
        rw [upd_same]
        have e2 : (3 - (p : Int)).toNat = 3 - p := by omega
        rw [e2]
        congr 2
        match p, hp with
        | 0, _ => rfl
        | 1, _ => rfl
        | 2, _ => rfl
    refine ⟨a, b, _, _, rfl, rfl, SqT.of (by rw [upd_ne hab]; exact h1), SqT.of upd_same, ?_, fun e => ?_, fun _ e => ?_, fun _ _ c hc => ?_⟩
    · rw [List.length_map, List.length_take]
      exact fewL (by show min p 4 + 1 ≤ 1000; omega)
    · have e0 : p = 0 := by
        have e' : (x.l.take p) = [] := by simpa using e
        match p, hp, e' with
        | 0, _, _ => rfl
        | 1, _, z => cases z
        | 2, _, z => cases z
      subst e0
      refine ⟨by show 1 ≤ sizeLine; decide, fun o ho => ⟨_, rfl, _, _, rfl, rfl, zeros b _ s2 ?_ o ho⟩⟩
      rw [upd_same]
      rfl
    · cases e
    · refine ⟨by show 1 ≤ sizeLine; decide, fun o ho => ⟨_, rfl, _, _, rfl, rfl, zeros c _ (s2.trans (sn hc)) ?_ o ho⟩⟩
      rw [upd_same, List.map_append]
      rfl
end

/-! ### tupled: by the depth of what it is given -/
mutual
def tupD : PyData → PyData
  | .list ds => .tuple (tupDs ds)
  | .tuple ds => .tuple (tupDs ds)
  | d => d
def tupDs : List PyData → List PyData
  | [] => []
  | d :: ds => tupD d :: tupDs ds
end
/-! numbers, and short rows of such -/
mutual
def okT : PyData → Bool
  | .int _ => true
  | .list ds => decide (ds.length ≤ 1000) && okTs ds
  | .tuple ds => decide (ds.length ≤ 1000) && okTs ds
  | _ => false
def okTs : List PyData → Bool
  | [] => true
  | d :: ds => okT d && okTs ds
end
theorem tupDs_map : ∀ ds : List PyData, tupDs ds = ds.map tupD
  | [] => rfl
  | d :: ds => by rw [tupDs, tupDs_map ds]; rfl
theorem okTs_mem : ∀ {ds : List PyData} {d : PyData}, okTs ds = true → d ∈ ds → okT d = true
  | d :: ds, e, h, m => by
    simp only [okTs, Bool.and_eq_true] at h
    rcases List.mem_cons.mp m with rfl | m
    · exact h.1
    · exact okTs_mem h.2 m
mutual
theorem noL_tupD : ∀ d : PyData, okT d = true → noL (tupD d) = true
  | .int _, _ => rfl
  | .list ds, h => by
    simp only [okT, Bool.and_eq_true] at h
    exact noLs_tupDs ds h.2
  | .tuple ds, h => by
    simp only [okT, Bool.and_eq_true] at h
    exact noLs_tupDs ds h.2
  | .none, h => by simp [okT] at h
  | .bool _, h => by simp [okT] at h
  | .str _, h => by simp [okT] at h
  | .dict _, h => by simp [okT] at h
theorem noLs_tupDs : ∀ ds : List PyData, okTs ds = true → noLs (tupDs ds) = true
  | [], _ => rfl
  | d :: ds, h => by
    simp only [okTs, Bool.and_eq_true] at h
    show (noL (tupD d) && noLs (tupDs ds)) = true
    rw [noL_tupD d h.1, noLs_tupDs ds h.2]
    rfl
end
theorem depth_mem : ∀ {ds : List PyData} {d : PyData}, d ∈ ds → d.depth ≤ PyData.depthAll ds
  | d :: ds, e, m => by
    rw [PyData.depthAll]
    rcases List.mem_cons.mp m with rfl | m
    · omega
    · have := depth_mem m
      omega
theorem DRs.get {H : Hp} : ∀ {xs : List V} {ds : List PyData} {i : Nat} {x : V}, DRs H xs ds → xs[i]? = some x → ∃ d, ds[i]? = some d ∧ DR H x d
  | _, _, i, x, .nil, h => by simp at h
  | _, _, 0, x, .cons h1 _, h => by
    simp only [List.getElem?_cons_zero, Option.some.injEq] at h
    subst h
    exact ⟨_, rfl, h1⟩
  | _, _, i + 1, x, .cons _ h2, h => by
    rw [List.getElem?_cons_succ] at h
    rw [List.getElem?_cons_succ]
    exact DRs.get h2 h
theorem noLs_take {ds : List PyData} : ∀ (i : Nat), noLs ds = true → noLs (ds.take i) = true := by
  induction ds with
  | nil => intro i _; rw [List.take_nil]; rfl
  | cons d ds ih =>
    intro i h
    cases i with
    | zero => rfl
    | succ i =>
      simp only [noLs, Bool.and_eq_true] at h
      rw [List.take_succ_cons]
      show (noL d && noLs (ds.take i)) = true
      rw [h.1, ih i h.2]
      rfl
theorem rd_yes {σ : L2.St} {H : Hp} {F : Bool → Hp → Prop} (h : F true H) : tYes σ H F := h
theorem pi_or {X : Cx} {tg iter : Expr} {w1 w2 : TI} (h1 : PI X tg iter w1) (h2 : PI X tg iter w2) : PI X tg iter (fun σ H R => w1 σ H R ∨ w2 σ H R) :=
  ⟨fun pins s σ H R I h => h.elim (h1.run pins s σ H R I) (h2.run pins s σ H R I)⟩
theorem st0_lst {H : Hp} {D : Addr} {xs ys : List V} (h : H D = some (.lst xs)) : St0 H (upd H D (.lst ys)) := fun b zs hb => by
  rw [upd_ne (fun z => by rw [z, h] at hb; cases hb)]
  exact hb

section
variable {P : Program} {w : World} {K : PySem.W.Frag} {mg : Str → Option Value} {base : Heap}

def spTup (n : Nat) : Sp := fun vs H Q _ => ∃ v d, vs = [v] ∧ DR H v d ∧ okT d = true ∧ d.depth < n ∧ ∀ r H', Same H H' → DR H' r (tupD d) → Q r H'
/-- what a turn of a comprehension that makes data keeps: the list at D holds what comes of the first items -/
def Made (H : Hp) (D : Addr) (es : List PyData) (i : Nat) (H' : Hp) : Prop := Same H H' ∧ H D = none ∧ ∃ acc, H' D = some (.lst acc) ∧ DRs H' acc (es.take i)
theorem Made.start {H : Hp} {D : Addr} {es : List PyData} (h : H D = none) : Made H D es 0 (upd H D (.lst [])) := ⟨sn h, h, [], upd_same, .nil⟩
theorem Made.turn {H H' H1 : Hp} {D : Addr} {es : List PyData} {i : Nat} {y : V} {e : PyData} (m : Made H D es i H') (hn : noLs es = true) (he : es[i]? = some e) (hl : es.length ≤ 1000) (s : Same H' H1) (d : DR H1 y e) (hi : i < es.length) :
    ∃ acc, H1 D = some (.lst acc) ∧ acc.length < sizeLine ∧ Made H D es (i + 1) (upd H1 D (.lst (acc ++ [y]))) := by
  obtain ⟨s0, h0, acc, ha, dr⟩ := m
  have hb := s _ _ ha
  have sd := st0_lst (ys := acc ++ [y]) hb
  refine ⟨acc, hb, small1000 ?_, fun b o q => ?_, h0, acc ++ [y], upd_same, ?_⟩
  · rw [DRs.len _ dr, List.length_take]
    omega
  · rw [upd_ne (ne_of_none q h0)]
    exact s _ _ (s0 _ _ q)
  · rw [List.take_add_one, he]
    have ne : noL e = true := by
      have q := noLs_take (i + 1) hn
      rw [List.take_add_one, he] at q
      have : ∀ xs : List PyData, noLs (xs ++ [e]) = true → noL e = true := by
        intro xs
        induction xs with
        | nil => intro z; simpa [noLs] using z
        | cons x xs ih => intro z; simp only [List.cons_append, noLs, Bool.and_eq_true] at z; exact ih z.2
      exact this _ q
    exact DRs.app ((dr.mono s).keep sd _ (noLs_take i hn)) (.cons (d.keep sd _ ne) .nil)
theorem Made.all {H H' : Hp} {D : Addr} {es : List PyData} {n : Nat} (m : Made H D es n H') (hn : es.length ≤ n) : Same H H' ∧ ∃ acc, H' D = some (.lst acc) ∧ DRs H' acc es := by
  obtain ⟨s0, _, acc, ha, dr⟩ := m
  rw [List.take_of_length_le hn] at dr
  exact ⟨s0, acc, ha, dr⟩

theorem step_tupled (B : Bi mg) (E : De K mg "tupled" s_tupled P_tupled) {n : Nat} (D_tupled : Dn P w K mg base n "tupled" P_tupled (spTup n)) : Dn P w K mg base (n + 1) "tupled" P_tupled (spTup (n + 1)) :=
  E.dn fun f fd F => F.ok sc_tupled (fun vs H Q E h => by obtain ⟨_, _, rfl, _⟩ := h; rfl) fun cdv A outer s H vs Q E hr h => by
    obtain ⟨v, d, rfl, hd, ok, dep, q⟩ := h
    refine ⟨_, (pss_one (ps_ret (pe_ifExp (pt_val (pe_callB call_isiT (by rfl) B.isinstance (by decide +kernel) (pa_cons (pv 0) (pa_cons (pe_tup (pa_cons (pe_bltn (v := .ty "list") (by rfl) B.list (by decide +kernel) rfl) (pa_cons (pe_bltn (v := .ty "tuple") (by rfl) B.tuple (by decide +kernel) rfl) pa_nil))) pa_nil)))) (pe_callTy call_tup (by rfl) B.tuple (by decide +kernel) (pa_cons (pe_lc (own := [("part", 1)]) rfl sc_tupled.nd (pi_or (pi_list (pv 0)) (pi_tup (pv 0))) (blkOk_by (N := N_tupled) (sc := defScope s_tupled) (by decide +kernel)) (fun _ _ _ _ _ => (pg_name (i := 1) sc_tupled.nd rfl (Or.inl rfl))) (fun _ _ _ _ _ => pts_nil) (fun _ _ _ _ _ => (pe_dn D_tupled hr rfl (pa_cons (pv 1) pa_nil)))) pa_nil)) (pv 0)))), ?_⟩
    refine ⟨v, rfl, (by show 2 ≤ sizeLine; decide), fun tp htp => ?_⟩
    have s0 : Same H (upd H tp (.tup [.ty "list", .ty "tuple"])) := sn htp
    have hd0 := hd.mono s0
    have rows : ∀ (a : Addr) (xs : List V) (ds : List PyData), v = .ref a → (H a = some (.lst xs) ∨ H a = some (.tup xs)) → DRs H xs ds → okTs ds = true → ds.length ≤ 1000 → PyData.depthAll ds < n → tupD d = .tuple (tupDs ds) →
        ∀ (Dl : Addr), upd H tp (.tup [.ty "list", .ty "tuple"]) Dl = none → ∀ (i : Nat) (x : V) (H' : Hp), xs[i]? = some x → Made (upd H tp (.tup [.ty "list", .ty "tuple"])) Dl (tupDs ds) i H' →
        spTup n ([x] ++ []) H' (fun y H4 => ∃ acc, H4 Dl = some (.lst acc) ∧ acc.length < sizeLine ∧ Made (upd H tp (.tup [.ty "list", .ty "tuple"])) Dl (tupDs ds) (i + 1) (upd H4 Dl (.lst (acc ++ [y])))) E0 := by
      intro a xs ds _ _ hds oks len dp _ Dl hDl i x H' hx m
      obtain ⟨e, he, dx⟩ := hds.get hx
      have me : e ∈ ds := List.mem_of_getElem? he
      refine ⟨x, e, rfl, (dx.mono s0).mono m.1, okTs_mem oks me, by have := depth_mem me; omega, fun r H1 sm dr => ?_⟩
      refine m.turn (noLs_tupDs ds oks) (e := tupD e) ?_ ?_ sm dr ?_
      · rw [tupDs_map, List.getElem?_map, he]
        rfl
      · rw [tupDs_map, List.length_map]
        exact len
      · rw [tupDs_map, List.length_map]
        exact (List.getElem?_eq_some_iff.mp he).1
    have fin : ∀ (ds : List PyData) (Dl : Addr) (H' : Hp) (k : Nat), ds.length ≤ k → tupD d = .tuple (tupDs ds) → Made (upd H tp (.tup [.ty "list", .ty "tuple"])) Dl (tupDs ds) k H' → rTupOf K [.ref Dl] H' Q := by
      intro ds Dl H' k hk e m
      obtain ⟨s1, acc, ha, dr⟩ := m.all (by rw [tupDs_map, List.length_map]; exact hk)
      refine tupOf (.inr ha) fun r H2 s2 h2 => q _ _ ((s0.trans s1).trans s2) ?_
      rw [e]
      exact .tup h2 (dr.mono s2)
    cases hd with
    | int i =>
      refine rd_nil (isi2 hd0 upd_same (show kitB "int" "list" = some false by decide +kernel) (show kitB "int" "tuple" = some false by decide +kernel) ?_)
      exact ⟨_, rfl, iteF ⟨_, rfl, q _ _ s0 (.int i)⟩⟩
    | non => simp [okT] at ok
    | bl b => simp [okT] at ok
    | @tup a xs ds h1 h2 =>
      simp only [okT, Bool.and_eq_true, decide_eq_true_eq] at ok
      have dp : PyData.depthAll ds < n := by
        have : PyData.depthAll ds + 1 < n + 1 := dep
        omega
      refine rd_nil (isi2 hd0 upd_same (show kitB "tuple" "list" = some false by decide +kernel) (show kitB "tuple" "tuple" = some true by decide +kernel) ?_)
      refine ⟨_, rfl, iteT (.inr ?_)⟩
      refine ⟨_, rfl, a, rfl, ⟨xs, SqT.of (s0 _ _ h1)⟩, fun Dl hDl => lc_tup (xs := xs) (Made _ Dl (tupDs ds)) (Made.start hDl) (fun i H' _ m => SqT.of (m.1 _ _ (s0 _ _ h1))) (fun i x H' hx m => ⟨rfl, rd_yes ?_⟩) fun H' m => ?_⟩
      · refine iteT ⟨x, rfl, ?_⟩
        exact rows a xs ds rfl (.inr h1) h2 ok.2 ok.1 dp rfl Dl hDl i x H' hx m
      · exact rd_nil (fin ds Dl H' _ (by rw [h2.len]; exact Nat.le_refl _) rfl m)
    | @lst a xs ds h1 h2 =>
      simp only [okT, Bool.and_eq_true, decide_eq_true_eq] at ok
      have dp : PyData.depthAll ds < n := by
        have : PyData.depthAll ds + 1 < n + 1 := dep
        omega
      refine rd_nil (isi2 hd0 upd_same (show kitB "list" "list" = some true by decide +kernel) (show kitB "list" "tuple" = some false by decide +kernel) ?_)
      refine ⟨_, rfl, iteT (.inl ?_)⟩
      refine ⟨_, rfl, a, rfl, ⟨xs, SqL.of (s0 _ _ h1)⟩, fun Dl hDl => lc_list (xs := xs) (Made _ Dl (tupDs ds)) (Made.start hDl) (fun i H' _ m => SqL.of (m.1 _ _ (s0 _ _ h1))) (fun i x H' hx m => ⟨rfl, rd_yes ?_⟩) fun H' m => ?_⟩
      · refine iteT ⟨x, rfl, ?_⟩
        exact rows a xs ds rfl (.inl h1) h2 ok.2 ok.1 dp rfl Dl hDl i x H' hx m
      · exact rd_nil (fin ds Dl H' _ (by rw [h2.len]; exact Nat.le_refl _) rfl m)
theorem d_tupled (B : Bi mg) (E : De K mg "tupled" s_tupled P_tupled) : ∀ n, Dn P w K mg base n "tupled" P_tupled (spTup n)
  | 0 => by
    obtain ⟨f, fd, F, m, b⟩ := E.ex
    have no : ∀ vs H Q E, ¬ spTup 0 vs H Q E := fun vs H Q E h => by
      obtain ⟨_, _, _, _, _, h, _⟩ := h
      exact Nat.not_lt_zero _ h
    exact ⟨f, fd, ⟨fun vs H Q E h => absurd h (no vs H Q E), fun A outer s H args us vs Q E _ _ _ _ h => absurd h (no vs H Q E)⟩, m, F.kp, b, lk_of F⟩
  | n + 1 => step_tupled B E (d_tupled B E n)
end

theorem le_two {x y : Int} {xs ys : List Int} (h : x :: xs ≤ y :: ys) : x < y ∨ (x = y ∧ xs ≤ ys) := by
  rcases List.cons_le_cons_iff.mp h with h | h
  · exact .inl h
  · exact .inr h
theorem Ver.le_key {v w : Ver} (hv : v.Sm) (hw : w.Sm) (h : v.l ≤ w.l) : v.key ≤ w.key := by
  obtain ⟨⟨h1, h2, h3, h4, h5⟩, h6, h7, h8⟩ := hv
  obtain ⟨⟨k1, k2, k3, k4, k5⟩, k6, k7, k8⟩ := hw
  unfold Ver.l at h
  unfold Ver.key
  rcases le_two h with h | ⟨e1, h⟩
  · omega
  · rcases le_two h with h | ⟨e2, h⟩
    · omega
    · rcases le_two h with h | ⟨e3, h⟩
      · omega
      · rcases le_two h with h | ⟨e4, _⟩
        · omega
        · omega
/-- VERSIONS at addresses -/
theorem rows_of {H : Hp} : ∀ {xs : List V} (lot : List Ver), DRs H xs (lot.map dV) → ∃ ks : List (Addr × List Int), xs = ks.map (fun p => V.ref p.1) ∧ ks.map (·.2) = lot.map Ver.l ∧ ∀ p ∈ ks, H p.1 = some (.tup (p.2.map V.int))
  | _, [], h => by
    cases h
    exact ⟨[], rfl, rfl, fun p hp => by cases hp⟩
  | _, v :: lot, h => by
    have h' : DRs H _ (dV v :: lot.map dV) := h
    cases h' with
    | cons h1 h2 =>
      obtain ⟨ks, e1, e2, h3⟩ := rows_of lot h2
      obtain ⟨p, rfl, hp⟩ := tupAt_of h1
      refine ⟨(p, v.l) :: ks, by rw [e1]; rfl, by rw [List.map_cons, e2]; rfl, fun r hr => ?_⟩
      rcases List.mem_cons.mp hr with rfl | hr
      · exact hp
      · exact h3 r hr
theorem vers_of : ∀ (L : List (Addr × List Int)) (lot : List Ver), (∀ p ∈ L, p.2 ∈ lot.map Ver.l) → ∃ line : List Ver, L.map (·.2) = line.map Ver.l ∧ ∀ v ∈ line, v ∈ lot
  | [], _, _ => ⟨[], rfl, fun v h => by cases h⟩
  | p :: L, lot, h => by
    obtain ⟨line, e, m⟩ := vers_of L lot fun q hq => h q (List.mem_cons_of_mem _ hq)
    obtain ⟨v, hv, ev⟩ := List.mem_map.mp (h p List.mem_cons_self)
    refine ⟨v :: line, by rw [List.map_cons, List.map_cons, e, ev], fun u hu => ?_⟩
    rcases List.mem_cons.mp hu with rfl | hu
    · exact hv
    · exact m u hu
theorem drs_rows {H : Hp} : ∀ (L : List (Addr × List Int)) (line : List Ver), L.map (·.2) = line.map Ver.l → (∀ p ∈ L, H p.1 = some (.tup (p.2.map V.int))) → DRs H (L.map fun p => V.ref p.1) (line.map dV)
  | [], [], _, _ => .nil
  | [], _ :: _, e, _ => by cases e
  | _ :: _, [], e, _ => by cases e
  | p :: L, v :: line, e, h => by
    rw [List.map_cons, List.map_cons] at e
    injection e with e1 e2
    refine .cons (TupAt.dr ⟨p.1, rfl, ?_⟩) (drs_rows L line e2 fun q hq => h q (List.mem_cons_of_mem _ hq))
    rw [← e1]
    exact h p List.mem_cons_self
theorem DRs.rev {H : Hp} : ∀ {xs : List V} {ds : List PyData}, DRs H xs ds → DRs H xs.reverse ds.reverse
  | _, _, .nil => .nil
  | _, _, .cons h t => by
    rw [List.reverse_cons, List.reverse_cons]
    exact DRs.app (DRs.rev t) (.cons h .nil)

/-- a lot of VERSIONS, as a tuple or a list of tuples or lists -/
def LotAt (H : Hp) (v : V) (lot : List Ver) : Prop := ∃ d, DR H v d ∧ okT d = true ∧ d.depth < 3 ∧ tupD d = .tuple (lot.map dV)
theorem LotAt.mono {H H' : Hp} {v : V} {lot : List Ver} (e : Same H H') (h : LotAt H v lot) : LotAt H' v lot := let ⟨d, a, b⟩ := h; ⟨d, a.mono e, b⟩
/-- what of a lot the promises want -/
structure LotOk (lot : List Ver) : Prop where
  few : lot.length < 64
  sm : ∀ v ∈ lot, v.Sm
theorem Ver.IsLine.sm {lot line : List Ver} (h : Ver.IsLine lot line) (ok : LotOk lot) : ∀ v ∈ line, v.Sm := fun v m => ok.sm v ((h.2 v).mp m)
def spBest : Sp := fun vs H Q _ => ∃ v lot, vs = [v] ∧ LotAt H v lot ∧ LotOk lot ∧ ∀ r H' line, Same H H' → Ver.IsLine lot line → DR H' r (.tuple (line.map dV)) → Q r H'
def spNewest : Sp := fun vs H Q _ => ∃ v lot, ∃ e : Bool, vs = [v, .bl e] ∧ LotAt H v lot ∧ LotOk lot ∧ ∀ r H' line, Same H H' → Ver.IsLine lot line → DR H' r (dO (if e then line.head? else (line.filter fun u => !decide (u.d < 0)).head?)) → Q r H'

section
variable {P : Program} {w : World} {K : PySem.W.Frag} {mg : Str → Option Value} {base : Heap}

theorem d_from_best (B : Bi mg) (E : De K mg "from_best" s_from_best P_from_best) (D_tupled : Dn P w K mg base 3 "tupled" P_tupled (spTup 3)) : Dn P w K mg base 4 "from_best" P_from_best spBest :=
  E.dn fun f fd F => F.ok sc_from_best (fun vs H Q E h => by obtain ⟨_, _, rfl, _⟩ := h; rfl) fun cdv A outer s H vs Q E hr h => by
    obtain ⟨v, lot, rfl, ⟨d, hd, okd, dep, ed⟩, ok, q⟩ := h
    refine ⟨_, (pss_one (ps_ret (pe_callTy call_tup (by rfl) B.tuple (by decide +kernel) (pa_cons (pe_revL (pe_callB (cr_sortedA rfl hr.units) (by rfl) B.sorted (by decide +kernel) (pa_cons (pe_callTy (cr_setTT rfl hr.units) (by rfl) B.set (by decide +kernel) (pa_cons (pe_dn D_tupled (hr.mono (by decide)) rfl (pa_cons (pv 0) pa_nil)) pa_nil)) pa_nil))) pa_nil)))), ?_⟩
    refine ⟨v, rfl, v, d, rfl, hd, okd, dep, fun r H1 s1 dr => ?_⟩
    rw [ed] at dr
    cases dr with
    | @tup l xs _ h1 h2 =>
      obtain ⟨ks, rfl, ek, hk⟩ := rows_of lot h2
      have lk : ks.length = lot.length := by
        have := congrArg List.length ek
        simpa using this
      refine ⟨l, ks, rfl, SqT.of h1, fun p hp => SqT.of (hk p hp), by rw [lk]; exact ok.few, fun a L ha sub all => ?_⟩
      have s2 := s1.trans (sn (o := SetTO P w a L) ha)
      have hk2 : ∀ p ∈ ks, upd H1 a (SetTO P w a L) p.1 = some (.tup (p.2.map V.int)) := fun p hp => sn ha _ _ (hk p hp)
      have inl : ∀ p ∈ ks, p.2 ∈ lot.map Ver.l := fun p hp => by
        rw [← ek]
        exact List.mem_map.mpr ⟨p, hp, rfl⟩
      refine ⟨a, L, rfl, upd_same, fun p hp => ⟨SqT.of (hk2 p (sub p hp)), fun z => ?_⟩, fun L' b pm nd pw hb => ?_⟩
      · obtain ⟨u, _, eu⟩ := List.mem_map.mp (inl p (sub p hp))
        rw [z] at eu
        cases eu
      · refine ⟨b, _, rfl, SqL.of upd_same, fun c hc => rd_nil ?_⟩
        have s3 := s2.trans (sn (o := .lst (L'.map fun q => V.ref q.1)) hb)
        have sub' : ∀ p ∈ L', p ∈ ks := fun p hp => sub p (pm.mem_iff.mp hp)
        obtain ⟨up, eu, mu⟩ := vers_of L' lot fun p hp => inl p (sub' p hp)
        have line : Ver.IsLine lot up.reverse := by
          refine ⟨?_, fun u => ?_⟩
          · rw [Ver.Line, List.pairwise_reverse]
            have nd' : (up.map Ver.l).Nodup := by rw [← eu]; exact nd
            have pw' : (up.map Ver.l).Pairwise (· ≤ ·) := by rw [← eu, List.pairwise_map]; exact pw
            rw [List.pairwise_map] at pw'
            have both := (List.pairwise_map.mp nd').and pw'
            refine List.Pairwise.imp_of_mem (fun {x y} hx hy h => ?_) both
            have sx := ok.sm x (mu x hx)
            have sy := ok.sm y (mu y hy)
            have le := Ver.le_key sx sy h.2
            have ne : x.key ≠ y.key := fun e => h.1 (by rw [Ver.key_inj sx sy e])
            omega
          · rw [List.mem_reverse]
            refine ⟨mu u, fun m => ?_⟩
            have m1 : u.l ∈ ks.map (·.2) := by
              rw [ek]
              exact List.mem_map.mpr ⟨u, m, rfl⟩
            obtain ⟨p, hp, ep⟩ := List.mem_map.mp m1
            obtain ⟨p2, hp2, e2⟩ := List.mem_map.mp (all p hp)
            have m2 : u.l ∈ up.map Ver.l := by
              rw [← eu]
              exact List.mem_map.mpr ⟨p2, pm.mem_iff.mpr hp2, by rw [e2, ep]⟩
            obtain ⟨u2, hu2, e3⟩ := List.mem_map.mp m2
            rw [← Ver.l_inj e3]
            exact hu2
        have hk3 : ∀ p ∈ L', upd (upd H1 a (SetTO P w a L)) b (.lst (L'.map fun q => V.ref q.1)) p.1 = some (.tup (p.2.map V.int)) := fun p hp => sn hb _ _ (hk2 p (sub' p hp))
        have dr3 := drs_rows L' up eu hk3
        refine tupOf (.inr upd_same) fun r H4 s4 h4 => q (.ref r) H4 up.reverse ((s3.trans (sn hc)).trans s4) line ?_
        have dr4 := (((dr3.mono (sn hc)).mono s4)).rev
        rw [List.map_reverse]
        exact .tup h4 dr4

end

/-- a list at D that a comprehension makes: data so far -/
def MkD (H : Hp) (D : Addr) (ds : List PyData) (H' : Hp) : Prop := Same H H' ∧ H D = none ∧ ∃ acc, H' D = some (.lst acc) ∧ DRs H' acc ds
theorem MkD.start {H : Hp} {D : Addr} (h : H D = none) : MkD H D [] (upd H D (.lst [])) := ⟨sn h, h, [], upd_same, .nil⟩
theorem MkD.grow {H H' H1 : Hp} {D : Addr} {ds : List PyData} (m : MkD H D ds H') (s : Same H' H1) : MkD H D ds H1 := by
  obtain ⟨s0, h0, acc, ha, dr⟩ := m
  exact ⟨s0.trans s, h0, acc, s _ _ ha, dr.mono s⟩
theorem MkD.add {H H' H1 : Hp} {D : Addr} {ds : List PyData} {y : V} {e : PyData} (m : MkD H D ds H') (hn : noLs ds = true) (he : noL e = true) (hl : ds.length < 1000) (s : Same H' H1) (d : DR H1 y e) :
    ∃ acc, H1 D = some (.lst acc) ∧ acc.length < sizeLine ∧ MkD H D (ds ++ [e]) (upd H1 D (.lst (acc ++ [y]))) := by
  obtain ⟨s0, h0, acc, ha, dr⟩ := m
  have hb := s _ _ ha
  have sd := st0_lst (ys := acc ++ [y]) hb
  refine ⟨acc, hb, small1000 (by rw [DRs.len _ dr]; omega), fun b o q => ?_, h0, acc ++ [y], upd_same, DRs.app ((dr.mono s).keep sd _ hn) (.cons (d.keep sd _ he) .nil)⟩
  rw [upd_ne (ne_of_none q h0)]
  exact s _ _ (s0 _ _ q)
theorem noLs_vers : ∀ vs : List Ver, noLs (vs.map dV) = true
  | [] => rfl
  | v :: vs => by
    show (noL (dV v) && noLs (vs.map dV)) = true
    rw [noL_dV, noLs_vers vs]
    rfl
theorem DRs.verAt {H : Hp} {xs : List V} {line : List Ver} {i : Nat} {x : V} (h : DRs H xs (line.map dV)) (e : xs[i]? = some x) : ∃ u, line[i]? = some u ∧ TupAt H x u := by
  obtain ⟨d, ed, dx⟩ := h.get e
  rw [List.getElem?_map] at ed
  cases hu : line[i]? with
  | none => rw [hu] at ed; cases ed
  | some u =>
    rw [hu] at ed
    cases ed
    exact ⟨u, rfl, tupAt_of dx⟩
theorem take_filter_yes {line : List Ver} {p : Ver → Bool} {i : Nat} {u : Ver} (h : line[i]? = some u) (hp : p u = true) : (line.take (i + 1)).filter p = (line.take i).filter p ++ [u] := by
  rw [List.take_add_one, h, List.filter_append]
  show _ ++ List.filter p [u] = _
  rw [List.filter_cons_of_pos hp]
  rfl
theorem take_filter_no {line : List Ver} {p : Ver → Bool} {i : Nat} {u : Ver} (h : line[i]? = some u) (hp : p u = false) : (line.take (i + 1)).filter p = (line.take i).filter p := by
  rw [List.take_add_one, h, List.filter_append]
  show _ ++ List.filter p [u] = _
  rw [List.filter_cons_of_neg (by rw [hp]; exact Bool.false_ne_true)]
  exact List.append_nil _
theorem len_filter_take {line : List Ver} {p : Ver → Bool} {i : Nat} : ((line.take i).filter p).length ≤ line.length := by
  refine Nat.le_trans (List.length_filter_le _ _) ?_
  rw [List.length_take]
  exact Nat.min_le_right _ _
theorem Ver.Line.nodup {line : List Ver} (h : Ver.Line line) : line.Nodup := h.imp fun {x y} l e => by
  rw [e] at l
  exact absurd l (Int.lt_irrefl _)
theorem sub_len : ∀ {xs ys : List Ver}, xs.Nodup → (∀ v ∈ xs, v ∈ ys) → xs.length ≤ ys.length
  | [], _, _, _ => Nat.zero_le _
  | x :: xs, ys, nd, h => by
    obtain ⟨h1, h2⟩ := List.nodup_cons.mp nd
    have hx := h x List.mem_cons_self
    have ih := sub_len (ys := ys.erase x) h2 fun v m => by
      refine (List.mem_erase_of_ne (fun e => h1 (by rw [← e]; exact m))).mpr (h v (List.mem_cons_of_mem _ m))
    rw [List.length_erase_of_mem hx] at ih
    have : 0 < ys.length := List.length_pos_of_mem hx
    rw [List.length_cons]
    omega
theorem Ver.IsLine.few {lot line : List Ver} (h : Ver.IsLine lot line) : line.length ≤ lot.length := sub_len h.1.nodup fun v m => (h.2 v).mp m

section
variable {P : Program} {w : World} {K : PySem.W.Frag} {mg : Str → Option Value} {base : Heap}
theorem d_newest_of (B : Bi mg) (E : De K mg "newest_of" s_newest_of P_newest_of) (D_from_best : Dn P w K mg base 4 "from_best" P_from_best spBest) (D_is_early : Dn P w K mg base 1 "is_early" P_is_early spEarly) : Dn P w K mg base 5 "newest_of" P_newest_of spNewest :=
  E.dn fun f fd F => F.ok sc_newest_of (fun vs H Q E h => by obtain ⟨_, _, _, rfl, _⟩ := h; rfl) fun cdv A outer s H vs Q E hr h => by
    obtain ⟨v, lot, e, rfl, hlot, ok, q⟩ := h
    refine ⟨_, (pss_cons (ps_setLc (i := 2) rfl sc_newest_of.nd rfl rfl (sw_true rfl rfl rfl (by decide +kernel)) (own := [("own", 3)]) (pi_tup (pe_dn D_from_best (hr.mono (by decide)) rfl (pa_cons (pv 0) pa_nil))) (blkOk_by (N := N_newest_of) (sc := defScope s_newest_of) (by decide +kernel)) (fun _ _ _ _ _ => (pg_name (i := 3) sc_newest_of.nd rfl (Or.inl rfl))) (fun _ _ _ _ _ => (pts_one (PW.pt (pw_or (pt_val (pv 1)) (pw_or1 (pt_not (pt_val (pe_dn D_is_early (hr.mono (by decide)) rfl (pa_cons (pv 3) pa_nil))))))))) (fun _ _ _ _ _ => (pv 3)))
      (pss_one (ps_ret (pe_ifExp (pt_cmpR (op_neD hr.units) (pv 2) (pe_lst pa_nil) (nomark _)) (pe_ix ix_seq (pv 2) pe_int (fun _ _ => rfl)) pe_non)))), ?_⟩
    refine ⟨v, rfl, v, lot, rfl, hlot, ok, fun r H1 line s1 hl dr => ?_⟩
    cases dr with
    | @tup a xs _ h1 h2 =>
      have few : line.length < 64 := Nat.lt_of_le_of_lt hl.few ok.few
      generalize hp : (fun u : Ver => e || !decide (u.d < 0)) = p
      have pe : ∀ u, p u = (e || !decide (u.d < 0)) := fun u => by rw [← hp]
      refine ⟨a, rfl, ⟨xs, SqT.of h1⟩, fun D hD => lc_tup (xs := xs) (fun i H' => MkD H1 D (((line.take i).filter p).map dV) H') (MkD.start hD) (fun i H' _ m => SqT.of (m.1 _ _ h1)) (fun i x H' hx m => ⟨rfl, ?_⟩) fun H' m => ?_⟩
      · obtain ⟨u, hu, tu⟩ := h2.verAt hx
        have lt : (((line.take i).filter p).map dV).length < 1000 := by
          rw [List.length_map]
          have := len_filter_take (line := line) (p := p) (i := i)
          omega
        have yes : ∀ H2, Same H' H2 → p u = true → ∃ acc, H2 D = some (.lst acc) ∧ acc.length < sizeLine ∧ MkD H1 D (((line.take (i + 1)).filter p).map dV) (upd H2 D (.lst (acc ++ [x]))) := fun H2 s2 hpu => by
          rw [take_filter_yes hu hpu, List.map_append]
          exact m.add (noLs_vers _) (noL_dV u) lt s2 ((tu.mono m.1).mono s2).dr
        refine ⟨_, rfl, e, rfl, ite2 (fun c => ?_) (fun c => ?_)⟩
        · exact iteT ⟨x, rfl, yes H' (Same.refl _) (by rw [pe, c]; rfl)⟩
        · have ef : e = false := by cases e with | false => rfl | true => exact absurd rfl c
          refine ⟨x, rfl, x, u, rfl, ((tu.mono m.1).ver), _, rfl, ?_⟩
          refine ite2 (fun c2 => ?_) (fun c2 => ?_)
          · exact ⟨x, rfl, yes H' (Same.refl _) (by rw [pe, ef]; exact c2)⟩
          · have hpu : p u = false := by
              rw [pe, ef, Bool.false_or]
              exact Bool.eq_false_iff.mpr c2
            show MkD H1 D (((line.take (i + 1)).filter p).map dV) H'
            rw [take_filter_no hu hpu]
            exact m
      · have m : MkD H1 D (((line.take xs.length).filter p).map dV) H' := m
        rw [List.take_of_length_le (by rw [drs_vers line h2]; exact Nat.le_refl _)] at m
        obtain ⟨s2, _, acc, ha, da⟩ := m
        refine ⟨_, rfl, (by show 0 ≤ sizeLine; decide), fun o ho => ?_⟩
        have s3 : Same H' (upd H' o (.lst [])) := sn ho
        refine neNil (vs := line.filter p) (s3 _ _ ha) (da.mono s3) upd_same ⟨_, rfl, ?_⟩
        have goal : ∀ r : V, DR (upd H' o (.lst [])) r (dO (line.filter p).head?) → Q r (upd H' o (.lst [])) := fun r d => by
          refine q r _ line ((s1.trans s2).trans s3) hl ?_
          have e1 : (if e = true then line.head? else (line.filter fun u => !decide (u.d < 0)).head?) = (line.filter p).head? := by
            rw [← hp]
            cases e with
            | true =>
              have e2 : (fun u : Ver => true || !decide (u.d < 0)) = fun _ => true := by funext u; rfl
              rw [e2, List.filter_eq_self.mpr (fun _ _ => rfl)]
              rfl
            | false =>
              have e2 : (fun u : Ver => false || !decide (u.d < 0)) = fun u => !decide (u.d < 0) := by funext u; rfl
              rw [e2]
              rfl
          rw [e1]
          exact d
        cases hf : line.filter p with
        | nil =>
          rw [hf] at goal
          exact iteF (goal _ .non)
        | cons u rest =>
          rw [hf] at goal da
          cases da with
          | @cons y ys _ _ d1 d2 => exact iteT ⟨_, rfl, .inl ⟨D, _, 0, y, rfl, rfl, SqL.of (s3 _ _ ha), atI_nat (j := 0) rfl, goal _ (d1.mono s3)⟩⟩
end

/-- the box of draws at t: its counter at most n -/
def Tin (t : Addr) (n : Nat) (H : Hp) : Prop := ∃ a b c : Int, H t = some (.lst [.int a, .int b, .int c]) ∧ 0 ≤ a ∧ 0 ≤ b ∧ b < 4611686018427387904 ∧ 0 ≤ c ∧ c ≤ n
theorem Tin.mono {t : Addr} {n m : Nat} {H : Hp} (h : Tin t n H) (l : n ≤ m) : Tin t m H := let ⟨a, b, c, e, h1, h2, h3, h4, h5⟩ := h; ⟨a, b, c, e, h1, h2, h3, h4, by omega⟩
theorem Tin.same {t : Addr} {n : Nat} {H H' : Hp} (h : Tin t n H) (e : Same H H') : Tin t n H' := let ⟨a, b, c, z, r⟩ := h; ⟨a, b, c, e _ _ z, r⟩
theorem Tin.t0 {t : Addr} {n : Nat} {H H' : Hp} (h : Tin t n H) (e : Sx t H H') : St0 H H' := let ⟨_, _, _, z, _⟩ := h; e.t0 z
theorem Tin.ne {t p : Addr} {n : Nat} {H : Hp} (h : Tin t n H) (e : H p = none) : p ≠ t := let ⟨_, _, _, z, _⟩ := h; (ne_of_none z e).symm
theorem rd_c1 {σ : L2.St} {H : Hp} {v : V} {F : List V → Hp → Prop} (h : F [v] H) : tCons (tC v) tNil σ H F := h
theorem ixl {K : PySem.W.Frag} {H : Hp} {t : Addr} {xs : List V} {j : Nat} {x : V} {Q : VK} (h : H t = some (.lst xs)) (e : xs[j]? = some x) (q : Q x H) : rIx K (.ref t) (.int (j : Int)) H Q :=
  .inl ⟨t, xs, j, x, rfl, rfl, SqL.of h, atI_nat e, q⟩
theorem ixt {K : PySem.W.Frag} {H : Hp} {t : Addr} {xs : List V} {j : Nat} {x : V} {Q : VK} (h : H t = some (.tup xs)) (e : xs[j]? = some x) (q : Q x H) : rIx K (.ref t) (.int (j : Int)) H Q :=
  .inr (.inl ⟨t, xs, j, x, rfl, rfl, SqT.of h, atI_nat e, q⟩)
theorem setl {H : Hp} {t : Addr} {xs ys : List V} {j : Nat} {v : V} {Q : Hp → Prop} (h : H t = some (.lst xs)) (hj : j < xs.length) (e : xs.set j v = ys) (q : Q (upd H t (.lst ys))) : rSetL (.ref t) (.int (j : Int)) v H Q :=
  ⟨t, xs, j, j, rfl, rfl, h, by unfold ixN; rw [if_pos (by omega), if_pos (by omega)]; rfl, by rw [e]; exact q⟩

def spTake : Sp := fun vs H Q _ => ∃ t n, ∃ k : Int, vs = [.ref t, .int k] ∧ Tin t n H ∧ n ≤ 100000 ∧ 0 < k ∧ k ≤ 1000 ∧ ∀ H' (d : Int), Sx t H H' → Tin t (n + 1) H' → 0 ≤ d → d < k → Q (.int d) H'
/-- one of the goods that stand in a list, not the box itself -/
def spOf : Sp := fun vs H Q _ => ∃ t n p xs, vs = [.ref t, .ref p] ∧ Tin t n H ∧ n ≤ 100000 ∧ p ≠ t ∧ H p = some (.lst xs) ∧ xs ≠ [] ∧ xs.length ≤ 1000 ∧ ∀ H' x, Sx t H H' → Tin t (n + 1) H' → x ∈ xs → Q x H'

section
variable {P : Program} {w : World} {K : PySem.W.Frag} {mg : Str → Option Value} {base : Heap}

theorem d_take (B : Bi mg) (E : De K mg "_law_take" s_w_take P_w_take) : Dn P w K mg base 1 "_law_take" P_w_take spTake :=
  E.dn fun f fd F => F.ok sc_w_take (fun vs H Q E h => by obtain ⟨_, _, _, rfl, _⟩ := h; rfl) fun cdv A outer s H vs Q E hr h => by
    obtain ⟨t, n, k, rfl, ⟨a, b, c, ht, a0, b0, b1, c0, c1⟩, hn, k0, k1, q⟩ := h
    refine ⟨_, (pss_cons (ps_if (pt_cmpR op_gt (pe_ix ix_seq (pv 0) pe_int (fun _ _ => rfl)) pe_int (nomark _)) (pss_cons (ps_set (i := 2) sc_w_take.nd rfl (Or.inl rfl) (pe_op op_mod (pe_callTy call_int1 (by rfl) B.int (by decide +kernel) (pa_cons (pe_ix ix_seq (pv 0) pe_int (fun _ _ => rfl)) pa_nil)) (pv 1)))
      (pss_cons (ps_asg (pe_op op_fdiv (pe_ix ix_seq (pv 0) pe_int (fun _ _ => rfl)) (pv 1)) (pg_sub (pv 0) pe_int set_list))
      (pss_one (ps_ret (pv 2))))) pss_nil)
      (pss_cons (ps_asg (pe_op op_add (pe_ix ix_seq (pv 0) pe_int (fun _ _ => rfl)) pe_int) (pg_sub (pv 0) pe_int set_list))
      (pss_cons (ps_set (i := 3) sc_w_take.nd rfl (Or.inl rfl) (pe_op op_mod (pe_callTy call_int1 (by rfl) B.int (by decide +kernel) (pa_cons (pe_op op_mul (pe_op op_add (pe_ix ix_seq (pv 0) pe_int (fun _ _ => rfl)) (pe_op op_mul pe_int (pe_ix ix_seq (pv 0) pe_int (fun _ _ => rfl)))) (pe_op op_add pe_int (pe_ix ix_seq (pv 0) pe_int (fun _ _ => rfl)))) pa_nil)) pe_int))
      (pss_cons (ps_set (i := 4) sc_w_take.nd rfl (Or.inl rfl) (pe_op op_add (pe_op op_mod (pe_callTy call_int1 (by rfl) B.int (by decide +kernel) (pa_cons (pv 3) pa_nil)) pe_int) pe_int))
      (pss_cons (ps_set (i := 5) sc_w_take.nd rfl (Or.inl rfl) (pe_op op_mod (pe_callTy call_int1 (by rfl) B.int (by decide +kernel) (pa_cons (pe_op op_mul (pe_op op_add (pe_op op_add (pv 3) (pe_ix ix_seq (pv 0) pe_int (fun _ _ => rfl))) (pe_op op_fdiv (pe_ix ix_seq (pv 0) pe_int (fun _ _ => rfl)) pe_int)) (pv 4)) pa_nil)) pe_int))
      (pss_one (ps_ret (pe_op op_mod (pe_callTy call_int1 (by rfl) B.int (by decide +kernel) (pa_cons (pe_op op_fdiv (pe_op op_mod (pe_callTy call_int1 (by rfl) B.int (by decide +kernel) (pa_cons (pe_op op_add (pe_op op_mul (pv 5) pe_int) (pv 3)) pa_nil)) pe_int) pe_int) pa_nil)) (pv 1))))))))), ?_⟩
    refine ⟨_, rfl, ixl (j := 0) ht rfl ⟨_, _, rfl, rfl, _, rfl, ite2 (fun g => ?_) (fun g => ?_)⟩⟩
    · have g : (0 : Int) < a := of_decide_eq_true g
      refine ⟨_, rfl, ixl (j := 0) ht rfl (rd_nil (.inl ⟨_, rfl, _, rfl, _, _, rfl, rfl, k0, ?_⟩))⟩
      refine ⟨_, rfl, ixl (j := 0) ht rfl ⟨_, rfl, _, _, rfl, rfl, ⟨k0, by omega⟩, _, rfl, setl (j := 0) (ys := [.int (a / k), .int b, .int c]) ht (by show 0 < 3; decide) rfl ⟨_, rfl, ?_⟩⟩⟩
      refine q _ _ Sx.upd ⟨a / k, b, c, upd_same, Int.ediv_nonneg a0 (by omega), b0, b1, c0, by omega⟩ (Int.emod_nonneg _ (by omega)) (Int.emod_lt_of_pos _ k0)
    · refine ⟨_, rfl, ixl (j := 2) ht rfl ⟨_, _, rfl, rfl, _, rfl, setl (j := 2) (ys := [.int a, .int b, .int (c + 1)]) ht (by show 2 < 3; decide) rfl ?_⟩⟩
      have h1 : upd H t (.lst [.int a, .int b, .int (c + 1)]) t = some (.lst [.int a, .int b, .int (c + 1)]) := upd_same
      have tin : Tin t (n + 1) (upd H t (.lst [.int a, .int b, .int (c + 1)])) := ⟨a, b, c + 1, h1, a0, b0, b1, by omega, by omega⟩
      have sx : Sx t H (upd H t (.lst [.int a, .int b, .int (c + 1)])) := Sx.upd
      generalize upd H t (.lst [.int a, .int b, .int (c + 1)]) = H1 at h1 tin sx
      refine ⟨_, rfl, ixl (j := 1) h1 rfl ⟨_, rfl, ixl (j := 2) h1 rfl ⟨_, _, rfl, rfl, .inl ⟨by decide, by decide⟩, _, _, rfl, rfl, _, rfl, ixl (j := 2) h1 rfl ⟨_, _, rfl, rfl, _, _, rfl, rfl, .inl ⟨by omega, by omega⟩, rd_nil (.inl ⟨_, rfl, _, _, rfl, rfl, (by show (0 : Int) < 2147483647; decide), ?_⟩)⟩⟩⟩⟩
      refine ⟨_, rfl, rd_nil (.inl ⟨_, rfl, _, _, rfl, rfl, (by show (0 : Int) < 40009; decide), _, _, rfl, rfl, ?_⟩)⟩
      refine ⟨_, rfl, _, rfl, ixl (j := 2) h1 rfl ⟨_, _, rfl, rfl, _, rfl, ixl (j := 1) h1 rfl ⟨_, _, rfl, rfl, ⟨by decide, by decide⟩, _, _, rfl, rfl, _, rfl, _, _, rfl, rfl, .inl ⟨?_, ?_⟩, rd_nil (.inl ⟨_, rfl, _, _, rfl, rfl, (by show (0 : Int) < 2147483629; decide), ?_⟩)⟩⟩⟩
      · have h1 := Int.emod_nonneg ((b + 48271 * (c + 1)) * (39373 + (c + 1))) (show (2147483647 : Int) ≠ 0 by decide)
        have h2 : 0 ≤ b / 1000003 := Int.ediv_nonneg b0 (by decide)
        omega
      · have h1 := Int.emod_lt_of_pos ((b + 48271 * (c + 1)) * (39373 + (c + 1))) (show (0 : Int) < 2147483647 by decide)
        have h2 : b / 1000003 ≤ b := by omega
        omega
      refine ⟨_, rfl, _, _, rfl, rfl, .inr ⟨by decide, by decide⟩, _, rfl, _, _, rfl, rfl, rd_nil (.inl ⟨_, rfl, _, _, rfl, rfl, (by show (0 : Int) < 2147483587; decide), _, _, rfl, rfl, ⟨by decide, by decide⟩, rd_nil (.inl ⟨_, rfl, _, rfl, _, _, rfl, rfl, k0, ?_⟩)⟩)⟩
      exact q _ _ sx tin (Int.emod_nonneg _ (by omega)) (Int.emod_lt_of_pos _ k0)

theorem d_of (B : Bi mg) (E : De K mg "_law_of" s_w_of P_w_of) (D_w_take : Dn P w K mg base 1 "_law_take" P_w_take spTake) : Dn P w K mg base 2 "_law_of" P_w_of spOf :=
  E.dn fun f fd F => F.ok sc_w_of (fun vs H Q E h => by obtain ⟨_, _, _, _, rfl, _⟩ := h; rfl) fun cdv A outer s H vs Q E hr h => by
    obtain ⟨t, n, p, xs, rfl, ht, hn, ne, hp, nz, lx, q⟩ := h
    refine ⟨_, (pss_one (ps_ret (pe_ix ix_seq (pv 1) (pe_dn D_w_take (hr.mono (by decide)) rfl (pa_cons (pv 0) (pa_cons (pe_callB call_len_seq (by rfl) B.len (by decide +kernel) (pa_cons (pv 1) pa_nil)) pa_nil))) (fun _ _ => rfl)))), ?_⟩
    refine ⟨_, rfl, _, rfl, _, rfl, p, xs, rfl, .inl (SqL.of hp), t, n, _, rfl, ht, hn, ?_, by omega, fun H' d sx tin d0 d1 => ?_⟩
    · have := List.length_pos_iff.mpr nz
      omega
    · have hlt : d.toNat < xs.length := by omega
      have e : d = ((d.toNat : Nat) : Int) := by omega
      rw [e]
      exact ixl (sx _ _ ne hp) (List.getElem?_eq_getElem hlt) (q _ _ sx tin (List.getElem_mem hlt))

theorem d_is_number (B : Bi mg) (E : De K mg "_law_is_number" s_w_is_number P_w_is_number) : Dn P w K mg base 1 "_law_is_number" P_w_is_number (fun vs H Q _ => ∃ i, vs = [.int i] ∧ Q (.bl true) H) :=
  E.dn fun f fd F => F.ok sc_w_is_number (fun vs H Q E h => by obtain ⟨_, rfl, _⟩ := h; rfl) fun cdv A outer s H vs Q E hr h => by
    obtain ⟨i, rfl, q⟩ := h
    refine ⟨_, (pss_one (ps_ret (pe_and (pe_callB call_isi (by rfl) B.isinstance (by decide +kernel) (pa_cons (pv 0) (pa_cons (pe_bltn (v := .ty "int") (by rfl) B.int (by decide +kernel) rfl) pa_nil))) (pe_one (pe_not (pe_callB call_isi (by rfl) B.isinstance (by decide +kernel) (pa_cons (pv 0) (pa_cons (pe_bltn (v := .ty "bool") (by rfl) B.bool (by decide +kernel) rfl) pa_nil)))))))), ?_⟩
    refine ⟨_, rfl, rd_c1 (isi (.int i) (show kitB "int" "int" = some true by decide +kernel) ⟨true, rfl, iteT ?_⟩)⟩
    exact ⟨_, rfl, rd_c1 (isi (.int i) (show kitB "int" "bool" = some false by decide +kernel) ⟨false, rfl, q⟩)⟩

theorem d_next (B : Bi mg) (E : De K mg "_law_next" s_w_next P_w_next) : Dn P w K mg base 1 "_law_next" P_w_next (t1 fun x => dV x.next) :=
  E.dn fun f fd F => F.ok sc_w_next (fun vs H Q E h => h.len) fun cdv A outer s H vs Q E hr h => by
    obtain ⟨v, x, rfl, ⟨p, rfl, hp⟩, ox, q⟩ := h
    refine ⟨_, (pss_cons (ps_asg (pv 0) (pg_tup rfl (pgs_cons (pg_name (i := 1) sc_w_next.nd rfl (Or.inl rfl)) (pgs_cons (pg_name (i := 2) sc_w_next.nd rfl (Or.inl rfl)) (pgs_cons (pg_name (i := 3) sc_w_next.nd rfl (Or.inl rfl)) (pgs_cons (pg_name (i := 4) sc_w_next.nd rfl (Or.inl rfl)) pgs_nil))))))
      (pss_one (ps_ret (pe_ifExp (pt_cmpR op_lt (pv 4) pe_int (nomark _)) (pe_tup (pa_cons (pv 1) (pa_cons (pv 2) (pa_cons (pv 3) (pa_cons (pe_op op_add (pv 4) pe_int) pa_nil))))) (pe_tup (pa_cons (pv 1) (pa_cons (pv 2) (pa_cons (pe_op op_add (pv 3) pe_int) (pa_cons (pe_un un_neg pe_int) pa_nil))))))))), ?_⟩
    refine ⟨_, rfl, p, _, rfl, SqT.of hp, rfl, _, _, rfl, _, _, rfl, _, _, rfl, _, _, rfl, rfl, ?_⟩
    refine ⟨_, rfl, _, _, rfl, rfl, _, rfl, ite2 (fun c => ?_) (fun c => ?_)⟩
    · refine ⟨_, rfl, _, rfl, _, rfl, _, rfl, _, _, rfl, rfl, (by show 4 ≤ sizeLine; decide), fun r hr' => q _ _ (sn hr') (TupAt.dr ⟨r, rfl, ?_⟩)⟩
      rw [upd_same]
      unfold Ver.next
      rw [if_pos (of_decide_eq_true c)]
      rfl
    · refine ⟨_, rfl, _, rfl, _, rfl, _, _, rfl, rfl, _, rfl, (by show 4 ≤ sizeLine; decide), fun r hr' => q _ _ (sn hr') (TupAt.dr ⟨r, rfl, ?_⟩)⟩
      rw [upd_same]
      unfold Ver.next
      rw [if_neg (fun z => c (decide_eq_true z))]
      rfl
end

/-- whether four numbers are a VERSION -/
def Ver.isV (v : Ver) : Bool := decide (0 ≤ v.a ∧ 0 ≤ v.b ∧ 0 ≤ v.c ∧ -9 ≤ v.d ∧ v.d ≤ 0)
theorem Ver.isV_iff {v : Ver} : Ver.isV v = true ↔ v.Ok := by
  unfold Ver.isV
  rw [decide_eq_true_iff]
  exact ⟨fun ⟨h1, h2, h3, h4, h5⟩ => ⟨h1, h2, h3, h4, h5⟩, fun ⟨h1, h2, h3, h4, h5⟩ => ⟨h1, h2, h3, h4, h5⟩⟩
/-- v[:k] of a tuple -/
theorem cutt {K : PySem.W.Frag} {H : Hp} {p : Addr} {w : Ver} {k : Nat} {Q : VK} (h : H p = some (.tup (w.l.map V.int))) (hk : k < 4) (q : ∀ r, H r = none → Q (.ref r) (upd H r (.tup ((w.l.take k).map V.int)))) : rSlA K (.ref p) none (some (k : Int)) H Q := by
  refine ⟨p, _, rfl, SqT.of h, fun e => ?_, fun _ r hr => ?_⟩
  · have e2 := e.2
    rw [HT.sIx_nat, List.length_map] at e2
    have : min k 4 = 4 := e2
    omega
  · rw [cut_to, ← List.map_take]
    exact q r hr
theorem Ver.newer_at {v w : Ver} {i : Nat} (hi : i < 4) (h : ∀ j, j < i → v.l.getD j 0 = w.l.getD j 0) (ne : v.l.getD i 0 ≠ w.l.getD i 0) : Ver.newer v w = decide (v.l.getD i 0 < w.l.getD i 0) := by
  unfold Ver.newer
  match i, hi with
  | 0, _ => exact if_pos ne
  | 1, _ =>
    have h0 : v.a = w.a := h 0 (by decide)
    rw [if_neg (fun z => z h0), if_pos (show v.b ≠ w.b from ne)]
    rfl
  | 2, _ =>
    have h0 : v.a = w.a := h 0 (by decide)
    have h1 : v.b = w.b := h 1 (by decide)
    rw [if_neg (fun z => z h0), if_neg (fun z => z h1), if_pos (show v.c ≠ w.c from ne)]
    rfl
  | 3, _ =>
    have h0 : v.a = w.a := h 0 (by decide)
    have h1 : v.b = w.b := h 1 (by decide)
    have h2 : v.c = w.c := h 2 (by decide)
    rw [if_neg (fun z => z h0), if_neg (fun z => z h1), if_neg (fun z => z h2)]
    rfl
theorem Ver.newer_none {v w : Ver} (h : ∀ j, j < 4 → v.l.getD j 0 = w.l.getD j 0) : Ver.newer v w = false := by
  have e : v = w := Ver.ext4 (h 0 (by decide)) (h 1 (by decide)) (h 2 (by decide)) (h 3 (by decide))
  rw [e]
  exact Ver.newer_self w
theorem l_get {v : Ver} {i : Nat} {x : V} (h : (v.l.map V.int)[i]? = some x) : x = .int (v.l.getD i 0) ∧ i < 4 := by
  rw [List.getElem?_map] at h
  cases e : v.l[i]? with
  | none => rw [e] at h; cases h
  | some n =>
    rw [e] at h
    cases h
    refine ⟨by rw [List.getD_eq_getElem?_getD, e]; rfl, (List.getElem?_eq_some_iff.mp e).1⟩

def spIsV : Sp := fun vs H Q _ => ∃ v x, vs = [v] ∧ TupAt H v x ∧ ∀ H', Same H H' → Q (.bl (Ver.isV x)) H'
def spNewer : Sp := fun vs H Q _ => ∃ v w x y, vs = [v, w] ∧ TupAt H v x ∧ TupAt H w y ∧ ∀ H', Same H H' → Q (.bl (Ver.newer x y)) H'
section
variable {P : Program} {w : World} {K : PySem.W.Frag} {mg : Str → Option Value} {base : Heap}

theorem d_is_version (B : Bi mg) (E : De K mg "_law_is_version" s_w_is_version P_w_is_version) (D_w_is_number : Dn P w K mg base 1 "_law_is_number" P_w_is_number (fun vs H Q _ => ∃ i, vs = [.int i] ∧ Q (.bl true) H)) :
    Dn P w K mg base 2 "_law_is_version" P_w_is_version spIsV :=
  E.dn fun f fd F => F.ok sc_w_is_version (fun vs H Q E h => by obtain ⟨_, _, rfl, _⟩ := h; rfl) fun cdv A outer s H vs Q E hr h => by
    obtain ⟨v, x, rfl, ⟨p, rfl, hp⟩, q⟩ := h
    refine ⟨_, (pss_cons (ps_if (PW.pt (pw_or (pt_not (pt_val (pe_callB call_isi (by rfl) B.isinstance (by decide +kernel) (pa_cons (pv 0) (pa_cons (pe_bltn (v := .ty "tuple") (by rfl) B.tuple (by decide +kernel) rfl) pa_nil))))) (pw_or (pt_cmpR op_ne (pe_callB call_len_seq (by rfl) B.len (by decide +kernel) (pa_cons (pv 0) pa_nil)) pe_int (nomark _)) (pw_or1 (pt_not (pt_val (pe_callB (cr_all rfl) (by rfl) B.all (by decide +kernel) (pa_cons (pe_lc (own := [("_law_bit", 1)]) rfl sc_w_is_version.nd (pi_tup (pv 0)) (blkOk_by (N := N_w_is_version) (sc := defScope s_w_is_version) (by decide +kernel)) (fun _ _ _ _ _ => (pg_name (i := 1) sc_w_is_version.nd rfl (Or.inl rfl))) (fun _ _ _ _ _ => pts_nil) (fun _ _ _ _ _ => (pe_dn D_w_is_number (hr.mono (by decide)) rfl (pa_cons (pv 1) pa_nil)))) pa_nil)))))))) (pss_one (ps_ret pe_bl)) pss_nil)
      (pss_one (ps_ret (pe_and (pe_cmpR op_ge (pe_callB (cr_minT rfl) (by rfl) B.min (by decide +kernel) (pa_cons (pe_slice sl_tupA (pv 0) po_none (po_some pe_int)) pa_nil)) pe_int (nomark _)) (pe_one (pe_chain op_le op_le (pe_un un_neg pe_int) (pe_ix ix_seq (pv 0) pe_int (fun _ _ => rfl)) pe_int)))))), ?_⟩
    have hd : DR H (.ref p) (dV x) := TupAt.dr ⟨p, rfl, hp⟩
    refine ⟨_, rfl, rd_c1 (isi hd (show kitB "tuple" "tuple" = some true by decide +kernel) ⟨_, rfl, iteF ?_⟩)⟩
    refine ⟨_, rfl, rd_nil ⟨p, _, rfl, .inr (SqT.of hp), rfl, _, rfl, iteNS rfl ?_⟩⟩
    refine ⟨_, rfl, p, rfl, ⟨_, SqT.of hp⟩, fun D hD => lc_tup (xs := x.l.map V.int) (fun i H' => Same H H' ∧ H' D = some (.lst ((List.replicate i true).map V.bl))) ⟨sn hD, upd_same⟩ (fun i H' _ m => SqT.of (m.1 _ _ hp)) (fun i y H' hy m => ⟨rfl, rd_yes ?_⟩) fun H' m => ?_⟩
    · obtain ⟨e, hi⟩ := l_get hy
      subst e
      refine iteT ⟨_, rfl, _, rfl, _, m.2, small1000 ?_, fun b o hb => ?_, ?_⟩
      · rw [List.length_map, List.length_replicate]
        omega
      · rw [upd_ne (ne_of_none hb hD)]
        exact m.1 _ _ hb
      · rw [upd_same, List.replicate_succ', List.map_append]
        rfl
    · refine rd_nil ⟨D, List.replicate 4 true, rfl, SqL.of m.2, _, rfl, iteF ?_⟩
      have m1 := m.1
      refine ⟨_, rfl, 3, rfl, cutt (k := 3) (m1 _ _ hp) (by decide) fun r hr' => rd_nil ⟨r, [x.a, x.b, x.c], rfl, SqT.of upd_same, (by show 0 < 3; decide), fun mn hm hl => ⟨_, _, rfl, rfl, _, rfl, ?_⟩⟩⟩
      have s2 : Same H (upd H' r (.tup [.int x.a, .int x.b, .int x.c])) := m1.trans (sn hr')
      have la := hl x.a (by simp)
      have lb := hl x.b (by simp)
      have lc := hl x.c (by simp)
      refine ite2 (fun c => ?_) (fun c => ?_)
      · have c : 0 ≤ mn := of_decide_eq_true c
        refine ⟨9, rfl, _, rfl, ixt (j := 3) (s2 _ _ hp) rfl ⟨_, _, rfl, rfl, _, rfl, ite2 (fun c2 => ?_) (fun c2 => ?_)⟩⟩
        · have c2 : -9 ≤ x.d := of_decide_eq_true c2
          refine ⟨_, _, rfl, rfl, ?_⟩
          have e : decide (x.d ≤ 0) = Ver.isV x := by
            unfold Ver.isV
            exact decide_eq_decide.mpr ⟨fun h => ⟨by omega, by omega, by omega, c2, h⟩, fun h => h.2.2.2.2⟩
          show Q (.bl (decide (x.d ≤ 0))) _
          rw [e]
          exact q _ s2
        · have c2 : ¬ -9 ≤ x.d := fun z => c2 (decide_eq_true z)
          have e : Ver.isV x = false := decide_eq_false fun h => c2 h.2.2.2.1
          have := q _ s2
          rw [e] at this
          exact this
      · have c : ¬ 0 ≤ mn := fun z => c (decide_eq_true z)
        have e : Ver.isV x = false := decide_eq_false fun h => c (by
          have hm' : mn = x.a ∨ mn = x.b ∨ mn = x.c := by simpa using hm
          rcases hm' with rfl | rfl | rfl
          · exact h.1
          · exact h.2.1
          · exact h.2.2.1)
        have := q _ s2
        rw [e] at this
        exact this

theorem d_newer (B : Bi mg) (E : De K mg "_law_newer" s_w_newer P_w_newer) : Dn P w K mg base 1 "_law_newer" P_w_newer spNewer :=
  E.dn fun f fd F => F.ok sc_w_newer (fun vs H Q E h => by obtain ⟨_, _, _, _, rfl, _⟩ := h; rfl) fun cdv A outer s H vs Q E hr h => by
    obtain ⟨v, w, x, y, rfl, ⟨p, rfl, hp⟩, ⟨o, rfl, ho⟩, q⟩ := h
    refine ⟨_, (pss_cons (ps_for PassesOwn.never rfl (RZ.pi_zipA (by rfl) B.zip (pa_cons (pv 0) (pa_cons (pv 1) pa_nil))) (pg_tup rfl (pgs_cons (pg_name (i := 2) sc_w_newer.nd rfl (Or.inl rfl)) (pgs_cons (pg_name (i := 3) sc_w_newer.nd rfl (Or.inl rfl)) pgs_nil))) (pss_one (ps_if (pt_cmpR op_ne (pv 2) (pv 3) (nomark _)) (pss_one (ps_ret (pe_cmpR op_lt (pv 2) (pv 3) (nomark _)))) pss_nil)))
      (pss_one (ps_ret pe_bl))), ?_⟩
    refine ⟨_, rfl, _, rfl, p, o, _, _, rfl, .inr ⟨SqT.of hp, SqT.of ho, ?_⟩⟩
    refine RZ.for_zipT (xs := x.l.map V.int) (ys := y.l.map V.int) rfl (fun i σ H' => (∃ z1 z2, σ = [some (.ref p), some (.ref o), z1, z2]) ∧ Same H H' ∧ ∀ j, j < i → x.l.getD j 0 = y.l.getD j 0) ⟨⟨none, none, rfl⟩, Same.refl _, fun j hj => absurd hj (Nat.not_lt_zero j)⟩ (fun i σ H' m => ⟨SqT.of (m.2.1 _ _ hp), SqT.of (m.2.1 _ _ ho)⟩) ?_ ?_
    · rintro i a b T σ H' ha hb ⟨⟨z1, z2, rfl⟩, sm, hs⟩ hT
      obtain ⟨rfl, hi⟩ := l_get ha
      obtain ⟨rfl, _⟩ := l_get hb
      have s2 : Same H (upd H' T (.tup [.int (x.l.getD i 0), .int (y.l.getD i 0)])) := sm.trans (sn hT)
      refine ⟨T, _, rfl, SqT.of upd_same, rfl, _, _, rfl, _, _, rfl, rfl, ?_⟩
      refine ⟨_, rfl, _, rfl, rfl, _, rfl, ite2 (fun c => ?_) (fun c => ?_)⟩
      · refine ⟨_, rfl, _, rfl, _, _, rfl, rfl, ?_⟩
        have := q _ s2
        rw [Ver.newer_at hi hs (ne_dec c)] at this
        exact this
      · refine ⟨⟨_, _, rfl⟩, s2, fun j hj => ?_⟩
        by_cases hj2 : j < i
        · exact hs j hj2
        · have : j = i := by omega
          subst this
          exact eq_dec c
    · rintro σ H' ⟨_, sm, hs⟩
      have := q _ sm
      rw [Ver.newer_none hs] at this
      exact this

theorem d_ahead (B : Bi mg) (E : De K mg "_law_ahead" s_w_ahead P_w_ahead) (D_w_is_version : Dn P w K mg base 2 "_law_is_version" P_w_is_version spIsV) (D_w_next : Dn P w K mg base 1 "_law_next" P_w_next (t1 fun x => dV x.next)) :
    Dn P w K mg base 3 "_law_ahead" P_w_ahead (t1 fun x => dO x.ahead) :=
  E.dn fun f fd F => F.ok sc_w_ahead (fun vs H Q E h => h.len) fun cdv A outer s H vs Q E hr h => by
    obtain ⟨v, x, rfl, ⟨p, rfl, hp⟩, ox, q⟩ := h
    refine ⟨_, (pss_cons (ps_asg (pv 0) (pg_tup rfl (pgs_cons (pg_name (i := 1) sc_w_ahead.nd rfl (Or.inl rfl)) (pgs_cons (pg_name (i := 2) sc_w_ahead.nd rfl (Or.inl rfl)) (pgs_cons (pg_name (i := 3) sc_w_ahead.nd rfl (Or.inl rfl)) (pgs_cons (pg_name (i := 4) sc_w_ahead.nd rfl (Or.inl rfl)) pgs_nil))))))
      (pss_cons (ps_for PassesOwn.never rfl (pi_tup (pe_tup (pa_cons (pe_tup (pa_cons (pv 1) (pa_cons (pv 2) (pa_cons (pv 3) (pa_cons (pe_op op_sub (pv 4) pe_int) pa_nil))))) (pa_cons (pe_tup (pa_cons (pv 1) (pa_cons (pv 2) (pa_cons (pe_op op_sub (pv 3) pe_int) (pa_cons pe_int pa_nil))))) pa_nil)))) (pg_name (i := 5) sc_w_ahead.nd rfl (Or.inl rfl)) (pss_one (ps_if (PW.pt (pw_and (pt_val (pe_dn D_w_is_version (hr.mono (by decide)) rfl (pa_cons (pv 5) pa_nil))) (pw_and1 (pt_cmpR (op_eqD hr.units) (pe_dn D_w_next (hr.mono (by decide)) rfl (pa_cons (pv 5) pa_nil)) (pe_callTy call_tup (by rfl) B.tuple (by decide +kernel) (pa_cons (pv 0) pa_nil)) (nomark _))))) (pss_one (ps_ret (pv 5))) pss_nil)))
      (pss_one (ps_ret pe_non)))), ?_⟩
    refine ⟨_, rfl, p, _, rfl, SqT.of hp, rfl, _, _, rfl, _, _, rfl, _, _, rfl, _, _, rfl, rfl, ?_⟩
    refine ⟨_, rfl, _, rfl, _, rfl, _, rfl, _, _, rfl, rfl, (by show 4 ≤ sizeLine; decide), fun o1 n1 => ?_⟩
    refine ⟨_, rfl, _, rfl, _, rfl, _, _, rfl, rfl, (by show 4 ≤ sizeLine; decide), fun o2 n2 => ?_⟩
    refine ⟨by show 2 ≤ sizeLine; decide, fun o3 n3 => ?_⟩
    have h1 : upd H o1 (.tup [.int x.a, .int x.b, .int x.c, .int (x.d - 1)]) o1 = some (.tup ((⟨x.a, x.b, x.c, x.d - 1⟩ : Ver).l.map V.int)) := upd_same
    have s1 : Same H (upd H o1 (.tup [.int x.a, .int x.b, .int x.c, .int (x.d - 1)])) := sn n1
    generalize hH1 : upd H o1 (.tup [.int x.a, .int x.b, .int x.c, .int (x.d - 1)]) = H1 at h1 s1
    have n2 : H1 o2 = none := by rw [← hH1]; exact n2
    have h2 : upd H1 o2 (.tup [.int x.a, .int x.b, .int (x.c - 1), .int 0]) o2 = some (.tup ((⟨x.a, x.b, x.c - 1, 0⟩ : Ver).l.map V.int)) := upd_same
    have s2 : Same H1 (upd H1 o2 (.tup [.int x.a, .int x.b, .int (x.c - 1), .int 0])) := sn n2
    generalize hH2 : upd H1 o2 (.tup [.int x.a, .int x.b, .int (x.c - 1), .int 0]) = H2 at h2 s2
    have n3 : H2 o3 = none := by rw [← hH2, ← hH1]; exact n3
    have s3 : Same H2 (upd H2 o3 (.tup [.ref o1, .ref o2])) := sn n3
    have h3 : upd H2 o3 (.tup [.ref o1, .ref o2]) o3 = some (.tup [.ref o1, .ref o2]) := upd_same
    generalize hH3 : upd H2 o3 (.tup [.ref o1, .ref o2]) = H3 at h3 s3
    refine ⟨o3, rfl, ⟨_, SqT.of h3⟩, ?_⟩
    have s03 := (s1.trans s2).trans s3
    have g1 := s3 _ _ (s2 _ _ h1)
    have g2 := s3 _ _ h2
    obtain ⟨a0, b0, c0, d9, d0⟩ := id ox
    refine for_tup (xs := [.ref o1, .ref o2]) (fun i σ H' => (∃ z, σ = [some (.ref p), some (.int x.a), some (.int x.b), some (.int x.c), some (.int x.d), z]) ∧ Same H3 H' ∧ (1 ≤ i → ¬ -9 < x.d) ∧ (2 ≤ i → ¬ 0 < x.c)) ⟨⟨none, rfl⟩, Same.refl _, fun z => absurd z (by decide), fun z => absurd z (by decide)⟩ (fun i σ H' _ m => SqT.of (m.2.1 _ _ h3)) ?_ ?_
    · rintro i y σ H' hy ⟨⟨z, rfl⟩, sm, c1, c2⟩
      -- what this turn tries
      obtain ⟨r, u, rfl, hu, yes, no⟩ : ∃ (r : Addr) (u : Ver), y = .ref r ∧ H3 r = some (.tup (u.l.map V.int)) ∧ (u.Ok → u.next = x ∧ x.ahead = some u) ∧ (¬ u.Ok → (1 ≤ i + 1 → ¬ -9 < x.d) ∧ (2 ≤ i + 1 → ¬ 0 < x.c)) := by
        match i, hy with
        | 0, hy =>
          cases hy
          refine ⟨o1, _, rfl, g1, fun h => ⟨?_, ?_⟩, fun h => ⟨fun _ l => h ⟨a0, b0, c0, ?_, ?_⟩, fun z => absurd z (by decide)⟩⟩
          · have h9 : -9 ≤ x.d - 1 := h.d9
            unfold Ver.next
            rw [if_pos (show x.d - 1 < 0 by omega)]
            exact Ver.ext4 rfl rfl rfl (show x.d - 1 + 1 = x.d by omega)
          · have h9 : -9 ≤ x.d - 1 := h.d9
            unfold Ver.ahead
            rw [if_pos (by omega)]
          · show -9 ≤ x.d - 1
            omega
          · show x.d - 1 ≤ 0
            omega
        | 1, hy =>
          cases hy
          have nd := c1 (by decide)
          refine ⟨o2, _, rfl, g2, fun h => ⟨?_, ?_⟩, fun h => ⟨fun _ => nd, fun _ l => h ⟨a0, b0, ?_, ?_, ?_⟩⟩⟩
          · unfold Ver.next
            rw [if_neg (show ¬ (0 : Int) < 0 by decide)]
            exact Ver.ext4 rfl rfl (show x.c - 1 + 1 = x.c by omega) (show (-9 : Int) = x.d by omega)
          · have hc : 0 ≤ x.c - 1 := h.c0
            unfold Ver.ahead
            rw [if_neg nd, if_pos (by omega)]
          · show 0 ≤ x.c - 1
            omega
          · show (-9 : Int) ≤ 0
            decide
          · exact Int.le_refl 0
        | i + 2, hy => cases hy
      have tu : TupAt H' (.ref r) u := ⟨r, rfl, sm _ _ hu⟩
      refine ⟨_, rfl, _, u, rfl, tu, fun H4 s4 => ⟨_, rfl, ite2 (fun c => ?_) (fun c => ?_)⟩⟩
      · have ou := Ver.isV_iff.mp c
        obtain ⟨en, ea⟩ := yes ou
        refine ⟨_, rfl, _, u, rfl, tu.mono s4, ou, fun k H5 s5 d5 => ?_⟩
        dsimp only at d5
        rw [en] at d5
        obtain ⟨k', rfl, hk⟩ := tupAt_of d5
        have hp5 := s5 _ _ (s4 _ _ (sm _ _ (s03 _ _ hp)))
        refine ⟨_, rfl, rd_nil (tupOf (.inl hp5) fun b H6 s6 hb => eqT (ns := x.l) (ms := x.l) ⟨k', rfl, s6 _ _ hk⟩ ⟨b, rfl, hb⟩ ⟨_, rfl, ?_⟩)⟩
        rw [decide_eq_true rfl]
        refine iteT ⟨_, rfl, q _ _ ((((s03.trans sm).trans s4).trans s5).trans s6) ?_⟩
        dsimp only
        rw [ea]
        exact (((tu.mono s4).mono s5).mono s6).dr
      · have nu : ¬ u.Ok := fun z => c (Ver.isV_iff.mpr z)
        refine iteF ?_
        exact ⟨⟨_, rfl⟩, sm.trans s4, no nu⟩
    · rintro σ H' ⟨_, sm, c1, c2⟩
      refine q _ _ (s03.trans sm) ?_
      dsimp only
      unfold Ver.ahead
      rw [if_neg (c1 (by show 1 ≤ 2; decide)), if_neg (c2 (by show 2 ≤ 2; decide))]
      exact .non

def spWalk : Sp := fun vs H Q _ => ∃ v x, ∃ m : Int, vs = [v, .int m] ∧ TupAt H v x ∧ x.Ok ∧ -1000 ≤ m ∧ m ≤ 1000 ∧ ∀ r H', Same H H' → DR H' r (dO (x.on m)) → Q r H'
theorem d_walk (B : Bi mg) (E : De K mg "_law_walk" s_w_walk P_w_walk) (D_w_next : Dn P w K mg base 1 "_law_next" P_w_next (t1 fun x => dV x.next)) (D_w_ahead : Dn P w K mg base 3 "_law_ahead" P_w_ahead (t1 fun x => dO x.ahead)) :
    Dn P w K mg base 4 "_law_walk" P_w_walk spWalk :=
  E.dn fun f fd F => F.ok sc_w_walk (fun vs H Q E h => by obtain ⟨_, _, _, rfl, _⟩ := h; rfl) fun cdv A outer s H vs Q E hr h => by
    obtain ⟨v, x, m, rfl, hv, ox, m0, m1, q⟩ := h
    refine ⟨_, (pss_cons (ps_set (i := 2) sc_w_walk.nd rfl (Or.inl rfl) (pv 0))
      (pss_cons (ps_for PassesOwn.never rfl (pi_range1 (by rfl) B.range (pa_cons (pe_callB call_abs (by rfl) B.abs (by decide +kernel) (pa_cons (pv 1) pa_nil)) pa_nil)) (pg_name (i := 3) sc_w_walk.nd rfl (Or.inl rfl)) (pss_one (ps_set (i := 2) sc_w_walk.nd rfl (Or.inl rfl) (pe_ifExp (pt_cmpR op_isN (pv 2) pe_non (nomark _)) pe_non (pe_ifExp (pt_cmpR op_gt (pv 1) pe_int (nomark _)) (pe_dn D_w_next (hr.mono (by decide)) rfl (pa_cons (pv 2) pa_nil)) (pe_dn D_w_ahead (hr.mono (by decide)) rfl (pa_cons (pv 2) pa_nil)))))))
      (pss_one (ps_ret (pv 2))))), ?_⟩
    refine ⟨v, rfl, _, rfl, rd_nil ⟨_, rfl, _, rfl, ?_, ?_, ?_⟩⟩
    · show -(2 ^ 62) ≤ (if m < 0 then -m else m)
      split <;> omega
    · show (if m < 0 then -m else m) < 2 ^ 62
      split <;> omega
    have up : decide (0 < m) = true ∨ decide (0 < m) = false := by cases decide (0 < m) <;> simp
    refine for_range (lo := 0) (n := (if m < 0 then -m else m).toNat) (fun i σ H' => (∃ o z, σ = [some v, some (.int m), some o, z] ∧ DR H' o (dO (Ver.walk (decide (0 < m)) x i))) ∧ Same H H') ⟨⟨v, none, rfl, hv.dr⟩, Same.refl _⟩ ?_ ?_
    · rintro i σ H' hi ⟨⟨o, z, rfl, d⟩, sm⟩
      refine ⟨_, rfl, rfl, _, rfl, ?_⟩
      cases e : Ver.walk (decide (0 < m)) x i with
      | none =>
        rw [e] at d
        cases d
        refine iteT ⟨⟨_, _, rfl, ?_⟩, sm⟩
        rw [Ver.walk, e]
        exact .non
      | some u =>
        rw [e] at d
        have ou := Ver.walk_ok ox e
        have tu := tupAt_of d
        obtain ⟨p, rfl, hp⟩ := id tu
        refine iteF ⟨_, rfl, _, _, rfl, rfl, _, rfl, ite2 (fun c => ?_) (fun c => ?_)⟩
        · refine ⟨_, rfl, _, u, rfl, tu, ou, fun r H2 s2 d2 => ⟨⟨_, _, rfl, ?_⟩, sm.trans s2⟩⟩
          rw [Ver.walk, e, show decide (0 < m) = true from c]
          exact d2
        · refine ⟨_, rfl, _, u, rfl, tu, ou, fun r H2 s2 d2 => ⟨⟨_, _, rfl, ?_⟩, sm.trans s2⟩⟩
          rw [Ver.walk, e, show decide (0 < m) = false from Bool.eq_false_iff.mpr c]
          exact d2
    · rintro σ H' ⟨⟨o, z, rfl, d⟩, sm⟩
      refine ⟨_, rfl, q _ _ sm ?_⟩
      have e : Ver.walk (decide (0 < m)) x (if m < 0 then -m else m).toNat = x.on m := by
        rw [Ver.walk_on ox]
        congr 1
        by_cases c : 0 < m
        · rw [decide_eq_true c, if_pos rfl, if_neg (by omega)]
          omega
        · rw [decide_eq_false c, if_neg Bool.false_ne_true]
          split <;> omega
      rw [e] at d
      exact d

/-- of two with the same first numbers, the second at most 399 steps on -/
def spApart : Sp := fun vs H Q _ => ∃ v w x y, vs = [v, w] ∧ TupAt H v x ∧ TupAt H w y ∧ x.Ok ∧ y.Ok ∧ x.a = y.a ∧ x.b = y.b ∧ x.rank ≤ y.rank ∧ y.rank < x.rank + 400 ∧ ∀ H', Same H H' → Q (.int (y.rank - x.rank)) H'
theorem d_apart (B : Bi mg) (E : De K mg "_law_apart" s_w_apart P_w_apart) (D_w_next : Dn P w K mg base 1 "_law_next" P_w_next (t1 fun x => dV x.next)) : Dn P w K mg base 2 "_law_apart" P_w_apart spApart :=
  E.dn fun f fd F => F.ok sc_w_apart (fun vs H Q E h => by obtain ⟨_, _, _, _, rfl, _⟩ := h; rfl) fun cdv A outer s H vs Q E hr h => by
    obtain ⟨v, w, x, y, rfl, hv, hw, ox, oy, ea, eb, le, lt, q⟩ := h
    refine ⟨_, (pss_cons (ps_for PassesOwn.never rfl (pi_range1 (by rfl) B.range (pa_cons pe_int pa_nil)) (pg_name (i := 2) sc_w_apart.nd rfl (Or.inl rfl)) (pss_cons (ps_if (pt_cmpR (op_eqD hr.units) (pv 0) (pv 1) (nomark _)) (pss_one (ps_ret (pv 2))) pss_nil)
      (pss_one (ps_set (i := 0) sc_w_apart.nd rfl (Or.inl rfl) (pe_dn D_w_next (hr.mono (by decide)) rfl (pa_cons (pv 0) pa_nil))))))
      (pss_one (ps_ret pe_non))), ?_⟩
    refine ⟨_, rfl, by decide, by decide, for_range (lo := 0) (n := 400) (fun i σ H' => (∃ o z u, σ = [some o, some w, z] ∧ TupAt H' o u ∧ Ver.walk true x i = some u) ∧ Same H H' ∧ (i : Int) ≤ y.rank - x.rank) ⟨⟨v, none, x, rfl, hv, rfl⟩, Same.refl _, by show (0 : Int) ≤ _; omega⟩ ?_ ?_⟩
    · rintro i σ H' hi ⟨⟨o, z, u, rfl, tu, eu⟩, sm, hle⟩
      have ou := Ver.walk_ok ox eu
      obtain ⟨ru, ua, ub⟩ := Ver.walk_rank ox eu
      obtain ⟨p, rfl, hp⟩ := id tu
      obtain ⟨p2, rfl, hp2⟩ := hw
      have e0 : (0 : Int) + (i : Int) = (i : Int) := by omega
      rw [e0]
      refine ⟨_, rfl, _, rfl, eqT ⟨p, rfl, hp⟩ ⟨p2, rfl, sm _ _ hp2⟩ ⟨_, rfl, ite2 (fun c => ?_) (fun c => ?_)⟩⟩
      · have e := Ver.l_inj (of_decide_eq_true c)
        subst e
        refine ⟨_, rfl, ?_⟩
        have := q _ sm
        rw [show u.rank - x.rank = (i : Int) by omega] at this
        exact this
      · have ne : (i : Int) ≠ y.rank - x.rank := fun e => c (decide_eq_true (by
          rw [Ver.eq_of_rank ou oy (by rw [ua, ea]) (by rw [ub, eb]) (by omega)]))
        refine ⟨_, rfl, _, u, rfl, tu, ou, fun r H2 s2 d2 => ⟨⟨r, _, u.next, rfl, tupAt_of d2, ?_⟩, sm.trans s2, by omega⟩⟩
        rw [Ver.walk, eu]
        rfl
    · rintro σ H' ⟨_, _, hle⟩
      have : (400 : Int) ≤ y.rank - x.rank := hle
      omega

/-- near enough for the walk -/
def Ver.Near (x y : Ver) : Prop := x.a = y.a → x.b = y.b → y.rank < x.rank + 400 ∧ x.rank < y.rank + 400
def spBtw : Sp := fun vs H Q _ => ∃ v w x y, vs = [v, w] ∧ TupAt H v x ∧ TupAt H w y ∧ x.Ok ∧ y.Ok ∧ Ver.Near x y ∧ ∀ r H', Same H H' → DR H' r (dI (Ver.btw x y)) → Q r H'
theorem d_between (B : Bi mg) (E : De K mg "_law_between" s_w_between P_w_between) (D_w_apart : Dn P w K mg base 2 "_law_apart" P_w_apart spApart) (D_w_newer : Dn P w K mg base 1 "_law_newer" P_w_newer spNewer) :
    Dn P w K mg base 3 "_law_between" P_w_between spBtw :=
  E.dn fun f fd F => F.ok sc_w_between (fun vs H Q E h => by obtain ⟨_, _, _, _, rfl, _⟩ := h; rfl) fun cdv A outer s H vs Q E hr h => by
    obtain ⟨v, w, x, y, rfl, hv, hw, ox, oy, near, q⟩ := h
    refine ⟨_, (pss_cons (ps_if (pt_cmpR (op_neD hr.units) (pe_slice sl_tupA (pv 0) po_none (po_some pe_int)) (pe_slice sl_tupA (pv 1) po_none (po_some pe_int)) (nomark _)) (pss_one (ps_ret pe_non)) pss_nil)
      (pss_one (ps_ret (pe_ifExp (pt_val (pe_dn D_w_newer (hr.mono (by decide)) rfl (pa_cons (pv 1) (pa_cons (pv 0) pa_nil)))) (pe_op op_sub pe_int (pe_dn D_w_apart (hr.mono (by decide)) rfl (pa_cons (pv 1) (pa_cons (pv 0) pa_nil)))) (pe_dn D_w_apart (hr.mono (by decide)) rfl (pa_cons (pv 0) (pa_cons (pv 1) pa_nil))))))), ?_⟩
    obtain ⟨p, rfl, hp⟩ := id hv
    obtain ⟨o, rfl, ho⟩ := id hw
    refine ⟨_, rfl, 2, rfl, cutt (k := 2) hp (by decide) fun r nr => ?_⟩
    have s1 : Same H (upd H r (.tup [.int x.a, .int x.b])) := sn nr
    have h1 : upd H r (.tup [.int x.a, .int x.b]) r = some (.tup ([x.a, x.b].map V.int)) := upd_same
    refine ⟨_, rfl, 2, rfl, cutt (k := 2) (s1 _ _ ho) (by decide) fun t nt => ?_⟩
    have s2 : Same H (upd (upd H r (.tup [.int x.a, .int x.b])) t (.tup [.int y.a, .int y.b])) := s1.trans (sn nt)
    refine neT (ns := [x.a, x.b]) (ms := [y.a, y.b]) ⟨r, rfl, sn nt _ _ h1⟩ ⟨t, rfl, upd_same⟩ ⟨_, rfl, ?_⟩
    by_cases c : x.a = y.a ∧ x.b = y.b
    · have ce : decide ([x.a, x.b] = [y.a, y.b]) = true := decide_eq_true (by rw [c.1, c.2])
      rw [ce]
      obtain ⟨n1, n2⟩ := near c.1 c.2
      refine iteF ⟨_, rfl, _, rfl, _, _, y, x, rfl, hw.mono s2, hv.mono s2, fun H3 s3 => ⟨_, rfl, ?_⟩⟩
      rw [Ver.newer_rank oy ox c.1.symm c.2.symm]
      have s23 := s2.trans s3
      have eb : dI (Ver.btw x y) = .int (y.rank - x.rank) := by
        unfold Ver.btw
        rw [if_pos c]
        rfl
      refine ite2 (fun d => ?_) (fun d => ?_)
      · have d := of_decide_eq_true d
        refine ⟨_, rfl, _, rfl, _, _, y, x, rfl, hw.mono s23, hv.mono s23, oy, ox, c.1.symm, c.2.symm, by omega, n2, fun H4 s4 => ⟨_, _, rfl, rfl, q _ _ (s23.trans s4) ?_⟩⟩
        rw [eb, show y.rank - x.rank = 0 - (x.rank - y.rank) by omega]
        exact .int _
      · have d : ¬ y.rank < x.rank := fun z => d (decide_eq_true z)
        refine ⟨_, rfl, _, rfl, _, _, x, y, rfl, hv.mono s23, hw.mono s23, ox, oy, c.1, c.2, by omega, n1, fun H4 s4 => q _ _ (s23.trans s4) ?_⟩
        rw [eb]
        exact .int _
    · have ce : decide ([x.a, x.b] = [y.a, y.b]) = false := decide_eq_false fun e => c (by simpa using e)
      rw [ce]
      refine iteT (q _ _ s2 ?_)
      unfold Ver.btw
      rw [if_neg c]
      exact .non
end

/-- what next_release's rival has tried so far -/
structure Tr (x : Ver) (p : Nat) (L : List Ver) (i j k : Nat) : Prop where
  all : ∀ u ∈ L, ∃ m a b : Int, 1 ≤ m ∧ 0 ≤ a ∧ 0 ≤ b ∧ u = Ver.tried x p m a b
  hd : (L = [] ∧ i = 0 ∧ j = 0 ∧ k = 0) ∨ L.head? = some (Ver.rel x p)
  len : L.length ≤ 4 * i + 2 * j + k
theorem Tr.add {x : Ver} {p : Nat} {L : List Ver} {i j k : Nat} (h : Tr x p L i j k) : Tr x p (L ++ [Ver.tried x p ((i : Int) + 1) j k]) i j (k + 1) := by
  refine ⟨fun u hu => ?_, .inr ?_, by rw [List.length_append, List.length_singleton]; have := h.len; omega⟩
  · rcases List.mem_append.mp hu with hu | hu
    · exact h.all u hu
    · exact ⟨_, _, _, by omega, by omega, by omega, List.mem_singleton.mp hu⟩
  · rcases h.hd with ⟨rfl, rfl, rfl, rfl⟩ | e
    · show some (Ver.tried x p (0 + 1) 0 0) = _
      rw [show (0 : Int) + 1 = 1 from rfl, Ver.tried_first]
    · cases L with
      | nil => cases e
      | cons u r => exact e
theorem Tr.next {x : Ver} {p : Nat} {L : List Ver} {i j k : Nat} (h : Tr x p L i j 2) : Tr x p L i (j + 1) 0 :=
  ⟨h.all, h.hd.elim (fun z => absurd z.2.2.2 (by decide)) .inr, by have := h.len; omega⟩
theorem Tr.nextt {x : Ver} {p : Nat} {L : List Ver} {i j k : Nat} (h : Tr x p L i 2 0) : Tr x p L (i + 1) 0 0 :=
  ⟨h.all, h.hd.elim (fun z => absurd z.2.2.1 (by decide)) .inr, by have := h.len; omega⟩
theorem two1 {i : Nat} {y : V} (h : [V.int 1, V.int 2][i]? = some y) : y = .int ((i : Int) + 1) ∧ i < 2 := by
  match i, h with
  | 0, h => cases h; exact ⟨rfl, by decide⟩
  | 1, h => cases h; exact ⟨rfl, by decide⟩
  | i + 2, h => cases h
theorem two0 {i : Nat} {y : V} (h : [V.int 0, V.int 1][i]? = some y) : y = .int (i : Int) ∧ i < 2 := by
  match i, h with
  | 0, h => cases h; exact ⟨rfl, by decide⟩
  | 1, h => cases h; exact ⟨rfl, by decide⟩
  | i + 2, h => cases h
theorem tried_l (x : Ver) {p : Nat} (hp : p < 3) (m a b : Int) :
    ((((x.l.take 3).map V.int).set p (.int (x.l.getD p 0 + m))).take (p + 1) ++ ([V.int a, V.int b]).take (2 - p)) ++ [V.int 0] = (Ver.tried x p m a b).l.map V.int := by
  match p, hp with
  | 0, _ => rfl
  | 1, _ => rfl
  | 2, _ => rfl
/-- xs[:k] of a list -/
theorem cutl {K : PySem.W.Frag} {H : Hp} {p : Addr} {xs : List V} {k : Int} {n : Nat} {Q : VK} (h : H p = some (.lst xs)) (e : k = (n : Int)) (q : ∀ r, H r = none → Q (.ref r) (upd H r (.lst (xs.take n)))) : rSlL K (.ref p) none (some k) H Q := by
  subst e
  exact ⟨p, _, rfl, SqL.of h, fun r hr => by rw [cut_to]; exact q r hr⟩
theorem catl {H : Hp} {p q : Addr} {xs ys : List V} {Q : VK} (hp : H p = some (.lst xs)) (hq : H q = some (.lst ys)) (hl : xs.length + ys.length ≤ 1000) (k : ∀ r, H r = none → Q (.ref r) (upd H r (.lst (xs ++ ys)))) : rCat (.ref p) (.ref q) H Q :=
  ⟨p, q, xs, ys, rfl, rfl, hp, hq, fewL hl, k⟩
theorem catt {K : PySem.W.Frag} {H : Hp} {p q : Addr} {xs ys : List V} {Q : VK} (hp : H p = some (.tup xs)) (hq : H q = some (.tup ys)) (hx : xs ≠ []) (hy : ys ≠ []) (hl : xs.length + ys.length ≤ 1000) (k : ∀ r, H r = none → Q (.ref r) (upd H r (.tup (xs ++ ys)))) : rCatA K (.ref p) (.ref q) H Q :=
  ⟨p, q, xs, ys, rfl, rfl, SqT.of hp, SqT.of hq, fewL hl, fun e => absurd e hx, fun _ e => absurd e hy, fun _ _ => k⟩

def spBump : Sp := fun vs H Q _ => ∃ v x, ∃ p : Nat, vs = [v, .int p] ∧ TupAt H v x ∧ p < 3 ∧ ∀ r H', Same H H' → DR H' r (dV (Ver.rel x p)) → Q r H'
section
variable {P : Program} {w : World} {K : PySem.W.Frag} {mg : Str → Option Value} {base : Heap}

theorem d_bumped (B : Bi mg) (E : De K mg "_law_bumped" s_w_bumped P_w_bumped) (D_w_newer : Dn P w K mg base 1 "_law_newer" P_w_newer spNewer) : Dn P w K mg base 2 "_law_bumped" P_w_bumped spBump :=
  E.dn fun f fd F => F.ok sc_w_bumped (fun vs H Q E h => by obtain ⟨_, _, _, rfl, _⟩ := h; rfl) fun cdv A outer s H vs Q E hr h => by
    obtain ⟨v, x, p, rfl, ⟨a, rfl, ha⟩, hp, q⟩ := h
    refine ⟨_, (pss_cons (ps_set (i := 2) sc_w_bumped.nd rfl (Or.inl rfl) (pe_lst pa_nil))
      (pss_cons (ps_for PassesOwn.never rfl (pi_tup (pe_tup (pa_cons pe_int (pa_cons pe_int pa_nil)))) (pg_name (i := 3) sc_w_bumped.nd rfl (Or.inl rfl)) (pss_one (ps_for PassesOwn.never rfl (pi_tup (pe_tup (pa_cons pe_int (pa_cons pe_int pa_nil)))) (pg_name (i := 4) sc_w_bumped.nd rfl (Or.inl rfl)) (pss_one (ps_for PassesOwn.never rfl (pi_tup (pe_tup (pa_cons pe_int (pa_cons pe_int pa_nil)))) (pg_name (i := 5) sc_w_bumped.nd rfl (Or.inl rfl)) (pss_cons (ps_set (i := 6) sc_w_bumped.nd rfl (Or.inl rfl) (pe_callTy call_list_of (by rfl) B.list (by decide +kernel) (pa_cons (pe_slice sl_tupA (pv 0) po_none (po_some pe_int)) pa_nil)))
      (pss_cons (ps_asg (pe_op op_add (pe_ix ix_seq (pv 6) (pv 1) (fun _ _ => rfl)) (pv 3)) (pg_sub (pv 6) (pv 1) set_list))
      (pss_cons (ps_set (i := 7) sc_w_bumped.nd rfl (Or.inl rfl) (pe_slice sl_list (pe_lst (pa_cons (pv 4) (pa_cons (pv 5) pa_nil))) po_none (po_some (pe_op op_sub pe_int (pv 1)))))
      (pss_one (ps_expr (pe_bm PySem.F.plainAttrs_list PySem.F.slot_list_append PySem.F.type_list_append mt_append (pv 2) (pa_cons (pe_op op_catA (pe_callTy call_tup (by rfl) B.tuple (by decide +kernel) (pa_cons (pe_op op_cat (pe_slice sl_list (pv 6) po_none (po_some (pe_op op_add (pv 1) pe_int))) (pv 7)) pa_nil)) (pe_tup (pa_cons pe_int pa_nil))) pa_nil))))))))))))
      (pss_cons (ps_set (i := 8) sc_w_bumped.nd rfl (Or.inl rfl) (pe_ix ix_seq (pv 2) pe_int (fun _ _ => rfl)))
      (pss_cons (ps_for PassesOwn.never rfl (pi_list (pv 2)) (pg_name (i := 6) sc_w_bumped.nd rfl (Or.inl rfl)) (pss_one (ps_set (i := 8) sc_w_bumped.nd rfl (Or.inl rfl) (pe_ifExp (pt_val (pe_dn D_w_newer (hr.mono (by decide)) rfl (pa_cons (pv 6) (pa_cons (pv 8) pa_nil)))) (pv 6) (pv 8)))))
      (pss_one (ps_ret (pv 8))))))), ?_⟩
    refine ⟨by show 0 ≤ sizeLine; decide, fun F0 nF => ?_⟩
    have mk0 : MkD H F0 [] (upd H F0 (.lst [])) := MkD.start nF
    generalize upd H F0 (.lst []) = H0 at mk0
    refine ⟨by show 2 ≤ sizeLine; decide, fun T1 n1 => ?_⟩
    have mk1 := mk0.grow (sn (o := .tup [.int 1, .int 2]) n1)
    have hT1 : upd H0 T1 (.tup [.int 1, .int 2]) T1 = some (.tup [.int 1, .int 2]) := upd_same
    generalize upd H0 T1 (.tup [.int 1, .int 2]) = H1 at mk1 hT1
    refine ⟨T1, rfl, ⟨_, SqT.of hT1⟩, ?_⟩
    refine for_tup (xs := [.int 1, .int 2]) (fun i σ H' => ∃ L z3 z4 z5 z6 z7 z8, σ = [some (.ref a), some (.int p), some (.ref F0), z3, z4, z5, z6, z7, z8] ∧ MkD H F0 (L.map dV) H' ∧ Tr x p L i 0 0 ∧ H' T1 = some (.tup [.int 1, .int 2]))
      ⟨[], none, none, none, none, none, none, rfl, mk1, ⟨fun u hu => (by cases hu), .inl ⟨rfl, rfl, rfl, rfl⟩, Nat.zero_le _⟩, hT1⟩ (fun i σ H' _ m => by obtain ⟨_, _, _, _, _, _, _, _, _, _, t⟩ := m; exact SqT.of t) ?_ ?_
    · rintro i y σ H' hy ⟨L, z3, z4, z5, z6, z7, z8, rfl, mk, tr, t1⟩
      obtain ⟨rfl, hi⟩ := two1 hy
      refine ⟨by show 2 ≤ sizeLine; decide, fun T2 n2 => ?_⟩
      have mk2 := mk.grow (sn (o := .tup [.int 0, .int 1]) n2)
      have hT2 : upd H' T2 (.tup [.int 0, .int 1]) T2 = some (.tup [.int 0, .int 1]) := upd_same
      have t1b := sn (o := .tup [.int 0, .int 1]) n2 _ _ t1
      generalize upd H' T2 (.tup [.int 0, .int 1]) = H2 at mk2 hT2 t1b
      refine ⟨T2, rfl, ⟨_, SqT.of hT2⟩, ?_⟩
      refine for_tup (xs := [.int 0, .int 1]) (fun j σ H' => ∃ L z4 z5 z6 z7 z8, σ = [some (.ref a), some (.int p), some (.ref F0), some (.int ((i : Int) + 1)), z4, z5, z6, z7, z8] ∧ MkD H F0 (L.map dV) H' ∧ Tr x p L i j 0 ∧ H' T1 = some (.tup [.int 1, .int 2]) ∧ H' T2 = some (.tup [.int 0, .int 1]))
        ⟨L, z4, z5, z6, z7, z8, rfl, mk2, tr, t1b, hT2⟩ (fun i σ H' _ m => by obtain ⟨_, _, _, _, _, _, _, _, _, _, t⟩ := m; exact SqT.of t) ?_ ?_
      · rintro j y σ H' hy ⟨L, z4, z5, z6, z7, z8, rfl, mk, tr, t1, t2⟩
        obtain ⟨rfl, hj⟩ := two0 hy
        refine ⟨by show 2 ≤ sizeLine; decide, fun T3 n3 => ?_⟩
        have mk3 := mk.grow (sn (o := .tup [.int 0, .int 1]) n3)
        have hT3 : upd H' T3 (.tup [.int 0, .int 1]) T3 = some (.tup [.int 0, .int 1]) := upd_same
        have t1b := sn (o := .tup [.int 0, .int 1]) n3 _ _ t1
        have t2b := sn (o := .tup [.int 0, .int 1]) n3 _ _ t2
        generalize upd H' T3 (.tup [.int 0, .int 1]) = H3 at mk3 hT3 t1b t2b
        refine ⟨T3, rfl, ⟨_, SqT.of hT3⟩, ?_⟩
        refine for_tup (xs := [.int 0, .int 1]) (fun k σ H' => ∃ L z5 z6 z7 z8, σ = [some (.ref a), some (.int p), some (.ref F0), some (.int ((i : Int) + 1)), some (.int (j : Int)), z5, z6, z7, z8] ∧ MkD H F0 (L.map dV) H' ∧ Tr x p L i j k ∧ H' T1 = some (.tup [.int 1, .int 2]) ∧ H' T2 = some (.tup [.int 0, .int 1]) ∧ H' T3 = some (.tup [.int 0, .int 1]))
          ⟨L, z5, z6, z7, z8, rfl, mk3, tr, t1b, t2b, hT3⟩ (fun i σ H' _ m => by obtain ⟨_, _, _, _, _, _, _, _, _, _, t⟩ := m; exact SqT.of t) ?_ ?_
        · rintro k y σ H' hy ⟨L, z5, z6, z7, z8, rfl, mk, tr, t1, t2, t3⟩
          obtain ⟨rfl, hk⟩ := two0 hy
          -- own = list(version[:3])
          refine ⟨_, rfl, 3, rfl, cutt (k := 3) (mk.1 _ _ ha) (by decide) fun r nr => rd_nil ?_⟩
          have s1 : Same H' (upd H' r (.tup ((x.l.take 3).map V.int))) := sn nr
          have hr1 : upd H' r (.tup ((x.l.take 3).map V.int)) r = some (.tup ((x.l.take 3).map V.int)) := upd_same
          generalize upd H' r (.tup ((x.l.take 3).map V.int)) = G1 at s1 hr1
          refine ⟨r, _, rfl, .inr (SqT.of hr1), fun O nO => ?_⟩
          have nO' : H' O = none := s1.free nO
          have s2 : Same H' (upd G1 O (.lst ((x.l.take 3).map V.int))) := s1.trans (sn nO)
          have hO : upd G1 O (.lst ((x.l.take 3).map V.int)) O = some (.lst ((x.l.take 3).map V.int)) := upd_same
          generalize upd G1 O (.lst ((x.l.take 3).map V.int)) = G2 at s2 hO
          -- own[place] = own[place] + more
          have at_ : ((x.l.take 3).map V.int)[p]? = some (.int (x.l.getD p 0)) := by
            match p, hp with
            | 0, _ => rfl
            | 1, _ => rfl
            | 2, _ => rfl
          refine ⟨_, rfl, _, rfl, ixl (j := p) hO at_ ⟨_, rfl, _, _, rfl, rfl, _, rfl, _, rfl, setl (j := p) (ys := ((x.l.take 3).map V.int).set p (.int (x.l.getD p 0 + ((i : Int) + 1)))) hO hp rfl ?_⟩⟩
          have s3 : Same H' (upd G2 O (.lst (((x.l.take 3).map V.int).set p (.int (x.l.getD p 0 + ((i : Int) + 1)))))) := fun b o hb => by
            rw [upd_ne (ne_of_none hb nO')]
            exact s2 _ _ hb
          have hO3 : upd G2 O (.lst (((x.l.take 3).map V.int).set p (.int (x.l.getD p 0 + ((i : Int) + 1))))) O = some (.lst (((x.l.take 3).map V.int).set p (.int (x.l.getD p 0 + ((i : Int) + 1))))) := upd_same
          generalize upd G2 O (.lst (((x.l.take 3).map V.int).set p (.int (x.l.getD p 0 + ((i : Int) + 1))))) = G3 at s3 hO3
          -- rest = [low, last][:2 - place]
          refine ⟨_, rfl, _, rfl, (by show 2 ≤ sizeLine; decide), fun W nW => ⟨_, rfl, _, _, rfl, rfl, _, rfl, cutl (n := 2 - p) upd_same (by omega) fun R nR => ?_⟩⟩
          have s4 : Same G3 (upd G3 W (.lst [.int (j : Int), .int (k : Int)])) := sn nW
          generalize upd G3 W (.lst [.int (j : Int), .int (k : Int)]) = G4 at s4 nR
          have s5 : Same G4 (upd G4 R (.lst (([V.int (j : Int), V.int (k : Int)]).take (2 - p)))) := sn nR
          have hR : upd G4 R (.lst (([V.int (j : Int), V.int (k : Int)]).take (2 - p))) R = some (.lst (([V.int (j : Int), V.int (k : Int)]).take (2 - p))) := upd_same
          generalize upd G4 R (.lst (([V.int (j : Int), V.int (k : Int)]).take (2 - p))) = G5 at s5 hR
          have s35 := s4.trans s5
          have hO5 := s35 _ _ hO3
          have mk5 := mk.grow (s3.trans s35)
          obtain ⟨_, _, acc0, hF5, _⟩ := id mk5
          -- found.append(tuple(own[:place + 1] + rest) + (0,))
          refine ⟨_, rfl, .inl ⟨rfl, _, SqL.of hF5⟩, _, rfl, _, rfl, _, _, rfl, rfl, _, rfl, cutl (n := p + 1) hO5 (by omega) fun S nS => ⟨_, rfl, catl upd_same (sn nS _ _ hR) ?_ fun Y nY => rd_nil (tupOf (.inr upd_same) fun U G8 s8 hU => ⟨(by show 1 ≤ sizeLine; decide), fun Z nZ => catt (sn nZ _ _ hU) upd_same ?_ (by simp) ?_ fun X' nX => rd_nil ?_⟩)⟩⟩
          · rw [List.length_take, List.length_take]
            show min (p + 1) _ + min (2 - p) 2 ≤ 1000
            omega
          · intro e
            have := congrArg List.length e
            rw [List.length_append, List.length_take, List.length_set, List.length_map, List.length_take] at this
            have : min (p + 1) (min 3 4) + _ = 0 := this
            omega
          · rw [List.length_append, List.length_take, List.length_take, List.length_set]
            show min (p + 1) _ + min (2 - p) 2 + 1 ≤ 1000
            omega
          · have sS : Same G5 (upd G5 S (.lst ((((x.l.take 3).map V.int).set p (.int (x.l.getD p 0 + ((i : Int) + 1)))).take (p + 1)))) := sn nS
            have sA : Same G5 (upd (upd G8 Z (.tup [.int 0])) X' (.tup ((((((x.l.take 3).map V.int).set p (.int (x.l.getD p 0 + ((i : Int) + 1)))).take (p + 1)) ++ (([V.int (j : Int), V.int (k : Int)]).take (2 - p))) ++ [.int 0]))) :=
              (((sS.trans (sn nY)).trans s8).trans (sn nZ)).trans (sn nX)
            have tu : TupAt (upd (upd G8 Z (.tup [.int 0])) X' (.tup ((((((x.l.take 3).map V.int).set p (.int (x.l.getD p 0 + ((i : Int) + 1)))).take (p + 1)) ++ (([V.int (j : Int), V.int (k : Int)]).take (2 - p))) ++ [.int 0]))) (.ref X') (Ver.tried x p ((i : Int) + 1) j k) :=
              ⟨X', rfl, by rw [upd_same, tried_l x hp]⟩
            obtain ⟨acc, hacc, hsz, mk6⟩ := mk5.add (noLs_vers L) (noL_dV _) (by rw [List.length_map]; have := tr.len; omega) sA tu.dr
            refine ⟨F0, acc, _, rfl, rfl, hacc, hsz, ?_⟩
            have sd := st0_lst (ys := acc ++ [.ref X']) hacc
            have s05 := (s3.trans s35).trans sA
            refine ⟨L ++ [Ver.tried x p ((i : Int) + 1) j k], _, _, _, _, rfl, ?_, tr.add, sd _ _ (s05 _ _ t1), sd _ _ (s05 _ _ t2), sd _ _ (s05 _ _ t3)⟩
            rw [List.map_append]
            exact mk6
        · rintro σ H' ⟨L, z5, z6, z7, z8, rfl, mk, tr, t1, t2, t3⟩
          exact ⟨L, _, _, _, _, _, rfl, mk, tr.next (k := 0), t1, t2⟩
      · rintro σ H' ⟨L, z4, z5, z6, z7, z8, rfl, mk, tr, t1, t2⟩
        exact ⟨L, _, _, _, _, _, _, rfl, mk, tr.nextt (j := 0) (k := 0), t1⟩
    · rintro σ H' ⟨L, z3, z4, z5, z6, z7, z8, rfl, mk, tr, t1⟩
      obtain ⟨sm, _, acc, hF, dr⟩ := mk
      have hh : L.head? = some (Ver.rel x p) := tr.hd.elim (fun z => absurd z.2.1 (by show ¬ 2 = 0; decide)) id
      cases L with
      | nil => cases hh
      | cons u rest =>
        cases hh
        cases acc with
        | nil => cases dr
        | cons y ys =>
          have dy : DR H' y (dV (Ver.rel x p)) := by cases dr with | cons h _ => exact h
          refine ⟨_, rfl, ixl (j := 0) hF rfl ?_⟩
          refine ⟨_, rfl, F0, rfl, ⟨_, SqL.of hF⟩, for_list (xs := y :: ys) (fun i σ H2 => (∃ z3 z4 z5 z6 z7 b, σ = [some (.ref a), some (.int p), some (.ref F0), z3, z4, z5, z6, z7, some b] ∧ TupAt H2 b (Ver.rel x p)) ∧ Same H' H2) ⟨⟨z3, z4, z5, z6, z7, y, rfl, tupAt_of dy⟩, Same.refl _⟩ (fun i σ H2 _ m => SqL.of (m.2 _ _ hF)) ?_ ?_⟩
          · rintro i o σ H2 ho ⟨⟨z3, z4, z5, z6, z7, b, rfl, tb⟩, s2⟩
            obtain ⟨t, et, tt⟩ := dr.verAt ho
            refine ⟨o, rfl, b, rfl, o, b, t, Ver.rel x p, rfl, tt.mono s2, tb, fun H3 s3 => ⟨_, rfl, ?_⟩⟩
            obtain ⟨m, c, d, hm, hc, hd, e⟩ := tr.all t (List.mem_of_getElem? et)
            rw [e, Ver.tried_not x p hm hc hd]
            refine iteF ⟨_, rfl, ⟨_, _, _, _, _, b, rfl, tb.mono s3⟩, s2.trans s3⟩
          · rintro σ H2 ⟨⟨z3, z4, z5, z6, z7, b, rfl, tb⟩, s2⟩
            exact ⟨_, rfl, q _ _ (sm.trans s2) tb.dr⟩
end

/-- rules for a comprehension's block: its own context is named from outside -/
theorem op_neDx {X : Cx} {A : Around} {K : PySem.W.Frag} (hu : A.units + 64 < cLine) (e : X.A = A := by rfl) (ek : X.K = K := by rfl) : OpR X (compareOp .NotEq) (rNeD K) := by
  subst ek
  exact op_neD (by rw [e]; exact hu)
theorem ix_in {X : Cx} {K : PySem.W.Frag} (ek : X.K = K := by rfl) : IxR X (rIx K) := by
  subst ek
  exact ix_seq
def spSorted : Sp := fun vs H Q _ => ∃ p xs lot, vs = [.ref p] ∧ H p = some (.lst xs) ∧ DRs H xs (lot.map dV) ∧ LotOk lot ∧ ∀ r H' line, Same H H' → Ver.IsLine lot line → DR H' r (.tuple (line.map dV)) → Q r H'
/-- where the law's own choosing stands -/
structure Sel (H : Hp) (lot left found : List Ver) (lf fo : Addr) (xl xf : List V) (H' : Hp) : Prop where
  same : Same H H'
  nl : H lf = none
  nf : H fo = none
  ne : lf ≠ fo
  hl : H' lf = some (.lst xl)
  dl : DRs H' xl (left.map dV)
  hf : H' fo = some (.lst xf)
  df : DRs H' xf (found.map dV)
  mid : Ver.Mid lot left found
  few : left.length < 64
theorem Ver.IsLine.foundlen {lot left found : List Ver} (m : Ver.Mid lot left found) : found.length ≤ lot.length := sub_len m.line.nodup fun v h => (m.mem v).mp (.inl h)
theorem ne_l (u b : Ver) : (!decide (u.l = b.l)) = decide (u ≠ b) := by
  by_cases e : u = b
  · simp [e]
  · have : u.l ≠ b.l := fun h => e (Ver.l_inj h)
    simp [e, this]

section
variable {P : Program} {w : World} {K : PySem.W.Frag} {mg : Str → Option Value} {base : Heap}

theorem d_sorted (B : Bi mg) (E : De K mg "_law_sorted" s_w_sorted P_w_sorted) (D_w_newer : Dn P w K mg base 1 "_law_newer" P_w_newer spNewer) : Dn P w K mg base 2 "_law_sorted" P_w_sorted spSorted :=
  E.dn fun f fd F => F.ok sc_w_sorted (fun vs H Q E h => by obtain ⟨_, _, _, rfl, _⟩ := h; rfl) fun cdv A outer s H vs Q E hr h => by
    obtain ⟨p, xs, lot, rfl, hp, dx, ok, q⟩ := h
    refine ⟨_, (pss_cons (ps_par (i := 1) (j := 2) (by rfl) sc_w_sorted.nd rfl rfl (by decide) rfl rfl (pa_cons (pe_callTy call_list_of (by rfl) B.list (by decide +kernel) (pa_cons (pv 0) pa_nil)) (pa_cons (pe_lst pa_nil) pa_nil)) (by rfl))
      (pss_cons (ps_while PassesOwn.never (pt_cmpR (op_neD hr.units) (pv 1) (pe_lst pa_nil) (nomark _)) (pss_cons (ps_set (i := 3) sc_w_sorted.nd rfl (Or.inr rfl) (pe_ix ix_seq (pv 1) pe_int (fun _ _ => rfl)))
      (pss_cons (ps_for PassesOwn.never rfl (pi_list (pv 1)) (pg_name (i := 4) sc_w_sorted.nd rfl (Or.inl rfl)) (pss_one (ps_set (i := 3) sc_w_sorted.nd rfl (Or.inr rfl) (pe_ifExp (pt_val (pe_dn D_w_newer (hr.mono (by decide)) rfl (pa_cons (pv 3) (pa_cons (pv 4) pa_nil)))) (pv 4) (pv 3)))))
      (pss_cons (ps_expr (pe_bm PySem.F.plainAttrs_list PySem.F.slot_list_append PySem.F.type_list_append mt_append (pv 2) (pa_cons (pv 3) pa_nil)))
      (pss_one (ps_setLc (i := 1) rfl sc_w_sorted.nd rfl rfl (sw_true rfl rfl rfl (by decide +kernel)) (own := [("_law_own", 4)]) (pi_list (pv 1)) (blkOk_by (N := N_w_sorted) (sc := defScope s_w_sorted) (by decide +kernel)) (fun _ _ _ _ _ => (pg_name (i := 4) sc_w_sorted.nd rfl (Or.inl rfl))) (fun _ _ _ _ _ => (pts_one (pt_cmpR (op_neDx (K := K) hr.units) (pv 4) (pv 3) (nomark _)))) (fun _ _ _ _ _ => (pv 4))))))))
      (pss_one (ps_ret (pe_callTy call_tup (by rfl) B.tuple (by decide +kernel) (pa_cons (pv 2) pa_nil)))))), ?_⟩
    refine ⟨_, rfl, p, xs, rfl, .inl (SqL.of hp), fun L0 nL => ⟨by show 0 ≤ sizeLine; decide, fun F0 nF => ⟨_, _, rfl, ?_⟩⟩⟩
    have hL : upd H L0 (.lst xs) L0 = some (.lst xs) := upd_same
    have s1 : Same H (upd H L0 (.lst xs)) := sn nL
    generalize upd H L0 (.lst xs) = H1 at hL s1 nF
    have start : Sel H lot lot [] L0 F0 xs [] (upd H1 F0 (.lst [])) := ⟨s1.trans (sn nF), nL, s1.free nF, ne_of_none hL nF, sn nF _ _ hL, (dx.mono s1).mono (sn nF), upd_same, .nil, Ver.Mid.start lot, ok.few⟩
    refine ⟨fun m σ H' => ∃ left found lf fo xl xf z3 z4, σ = [some (.ref p), some (.ref lf), some (.ref fo), z3, z4] ∧ m = left.length ∧ Sel H lot left found lf fo xl xf H', ⟨_, lot, [], L0, F0, xs, [], none, none, rfl, rfl, start⟩, ?_⟩
    rintro m σ H' ⟨left, found, lf, fo, xl, xf, z3, z4, rfl, rfl, S⟩
    refine ⟨_, rfl, (by show 0 ≤ sizeLine; decide), fun E0 nE => ?_⟩
    have sE : Same H' (upd H' E0 (.lst [])) := sn nE
    refine neNil (vs := left) (sE _ _ S.hl) (S.dl.mono sE) upd_same ⟨_, rfl, ?_⟩
    have S : Sel H lot left found lf fo xl xf (upd H' E0 (.lst [])) := ⟨S.same.trans sE, S.nl, S.nf, S.ne, sE _ _ S.hl, S.dl.mono sE, sE _ _ S.hf, S.df.mono sE, S.mid, S.few⟩
    generalize upd H' E0 (.lst []) = H2 at S
    clear sE
    cases left with
    | nil =>
      refine iteF ?_
      refine ⟨_, rfl, rd_nil (tupOf (.inr S.hf) fun r H3 s3 hr3 => q _ _ found (S.same.trans s3) S.mid.done (.tup hr3 (S.df.mono s3)))⟩
    | cons u rest =>
      refine iteT ?_
      obtain ⟨mid2, less⟩ := S.mid.turn ok.sm
      have hb : ∀ v ∈ u :: rest, v.Sm := fun v h => ok.sm v ((S.mid.mem v).mp (.inr h))
      generalize hbest : Ver.pick u (u :: rest) = best at mid2 less
      refine ⟨fun σ' H' => ∃ found lf fo xl xf z3 z4, σ' = [some (.ref p), some (.ref lf), some (.ref fo), z3, z4] ∧ Sel H lot ((u :: rest).filter fun o => decide (o ≠ best)) found lf fo xl xf H', fun σ' H' h => ?_, ?_⟩
      · obtain ⟨found, lf, fo, xl, xf, z3, z4, e, S'⟩ := h
        exact ⟨_, less, _, found, lf, fo, xl, xf, z3, z4, e, rfl, S'⟩
      · obtain ⟨y, ys, rfl, dy⟩ : ∃ y ys, xl = y :: ys ∧ DR H2 y (dV u) := by
          cases S.dl with
          | cons h _ => exact ⟨_, _, rfl, h⟩
        refine ⟨_, rfl, ixl (j := 0) S.hl rfl ?_⟩
        refine ⟨_, rfl, lf, rfl, ⟨_, SqL.of S.hl⟩, for_list (xs := y :: ys) (fun i σ H3 => (∃ b z4, σ = [some (.ref p), some (.ref lf), some (.ref fo), some b, z4] ∧ TupAt H3 b (Ver.pick u ((u :: rest).take i))) ∧ Same H2 H3) ⟨⟨y, z4, rfl, tupAt_of dy⟩, Same.refl _⟩ (fun i σ H3 _ m => SqL.of (m.2 _ _ S.hl)) ?_ ?_⟩
        · rintro i o σ H3 ho ⟨⟨b, z4, rfl, tb⟩, s3⟩
          obtain ⟨t, et, tt⟩ := S.dl.verAt ho
          refine ⟨b, rfl, o, rfl, b, o, _, t, rfl, tb, tt.mono s3, fun H4 s4 => ⟨_, rfl, ?_⟩⟩
          have e : Ver.pick u ((u :: rest).take (i + 1)) = if Ver.newer (Ver.pick u ((u :: rest).take i)) t = true then t else Ver.pick u ((u :: rest).take i) := by
            rw [List.take_add_one, et]
            exact Ver.pick_append u _ t
          refine ite2 (fun c => ?_) (fun c => ?_)
          · refine ⟨_, rfl, ⟨o, _, rfl, ?_⟩, s3.trans s4⟩
            rw [e, if_pos c]
            exact (tt.mono s3).mono s4
          · refine ⟨_, rfl, ⟨b, _, rfl, ?_⟩, s3.trans s4⟩
            rw [e, if_neg c]
            exact tb.mono s4
        · rintro σ H3 ⟨⟨b, z4, rfl, tb⟩, s3⟩
          have len : (y :: ys).length = (u :: rest).length := drs_vers (u :: rest) S.dl
          rw [List.take_of_length_le (by rw [len]; exact Nat.le_refl _), hbest] at tb
          have hf3 := s3 _ _ S.hf
          have lf3 : xf.length < 1000 := by
            rw [drs_vers found S.df]
            have := Ver.IsLine.foundlen S.mid
            have := ok.few
            omega
          -- found.append(best)
          refine ⟨_, rfl, .inl ⟨rfl, _, SqL.of hf3⟩, _, rfl, rd_nil ⟨fo, xf, b, rfl, rfl, hf3, small1000 (by omega), ?_⟩⟩
          have s4 : Same H (upd H3 fo (.lst (xf ++ [b]))) := fun c o hc => by
            rw [upd_ne (ne_of_none hc S.nf)]
            exact s3 _ _ (S.same _ _ hc)
          have t4 : St0 H3 (upd H3 fo (.lst (xf ++ [b]))) := st0_lst hf3
          have hl4 : upd H3 fo (.lst (xf ++ [b])) lf = some (.lst (y :: ys)) := by
            rw [upd_ne S.ne]
            exact s3 _ _ S.hl
          have dl4 := (S.dl.mono s3).keep t4 _ (noLs_vers (u :: rest))
          have hf4 : upd H3 fo (.lst (xf ++ [b])) fo = some (.lst (xf ++ [b])) := upd_same
          have df4 : DRs (upd H3 fo (.lst (xf ++ [b]))) (xf ++ [b]) ((found ++ [best]).map dV) := by
            rw [List.map_append]
            exact DRs.app ((S.df.mono s3).keep t4 _ (noLs_vers found)) (.cons (tb.keep t4).dr .nil)
          have tb4 := tb.keep t4
          generalize upd H3 fo (.lst (xf ++ [b])) = H4 at s4 hl4 dl4 hf4 df4 tb4
          -- left = [own for own in left if own != best]
          obtain ⟨bp, rfl, hbp⟩ := id tb4
          refine ⟨_, rfl, lf, rfl, ⟨_, SqL.of hl4⟩, fun D nD => lc_list (xs := y :: ys) (fun i H5 => MkD H4 D ((((u :: rest).take i).filter fun o => decide (o ≠ best)).map dV) H5) (MkD.start nD) (fun i H5 _ m => SqL.of (m.1 _ _ hl4)) (fun i o H5 ho m => ⟨rfl, ?_⟩) fun H5 m => ?_⟩
          · obtain ⟨t, et, tt⟩ := dl4.verAt ho
            obtain ⟨op, rfl, hop⟩ := tt
            refine ⟨_, rfl, _, rfl, neT (ns := t.l) (ms := best.l) ⟨op, rfl, m.1 _ _ hop⟩ ⟨bp, rfl, m.1 _ _ hbp⟩ ⟨_, rfl, ?_⟩⟩
            rw [ne_l]
            by_cases c : t ≠ best
            · rw [decide_eq_true c]
              refine iteT ⟨_, rfl, ?_⟩
              rw [take_filter_yes et (decide_eq_true c), List.map_append]
              refine m.add (noLs_vers _) (noL_dV t) ?_ (Same.refl _) (TupAt.dr ⟨op, rfl, m.1 _ _ hop⟩)
              rw [List.length_map]
              have h1 := len_filter_take (line := u :: rest) (p := fun o => decide (o ≠ best)) (i := i)
              have h2 := S.few
              omega
            · rw [decide_eq_false c]
              refine iteF ?_
              rw [take_filter_no et (decide_eq_false c)]
              exact m
          · have m : MkD H4 D ((((u :: rest).take (y :: ys).length).filter fun o => decide (o ≠ best)).map dV) H5 := m
            rw [List.take_of_length_le (by rw [len]; exact Nat.le_refl _)] at m
            obtain ⟨s5, _, acc, hacc, da⟩ := m
            refine ⟨found ++ [best], D, fo, acc, xf ++ [.ref bp], _, _, rfl, s4.trans s5, s4.free nD, S.nf, (ne_of_none hf4 nD).symm, hacc, da, s5 _ _ hf4, df4.mono s5, mid2, Nat.lt_trans less S.few⟩
end

/-! ### what is drawn near a VERSION -/
structure Ver.Cl (n : Nat) (x y : Ver) : Prop where
  ok : y.Ok
  a1 : y.a ≤ x.a + n
  b1 : y.b ≤ x.b + n
  c1 : y.c ≤ x.c + n
  c2 : x.c ≤ y.c + n
def Ver.put (y : Ver) (k : Nat) (e : Int) : Ver := match k with
  | 0 => { y with a := e }
  | 1 => { y with b := e }
  | 2 => { y with c := e }
  | _ => { y with d := e }
theorem put_l (y : Ver) {k : Nat} (hk : k < 4) (e : Int) : (y.l.map V.int).set k (.int e) = (Ver.put y k e).l.map V.int := by
  match k, hk with
  | 0, _ => rfl
  | 1, _ => rfl
  | 2, _ => rfl
  | 3, _ => rfl
theorem Ver.Cl.put3 {n : Nat} {x y : Ver} (h : Ver.Cl n x y) {e : Int} (h1 : -9 ≤ e) (h2 : e ≤ 0) : Ver.Cl (n + 6) x (Ver.put y 3 e) := by
  obtain ⟨⟨a0, b0, c0, _, _⟩, a1, b1, c1, c2⟩ := h
  exact ⟨⟨a0, b0, c0, h1, h2⟩, by show y.a ≤ _; omega, by show y.b ≤ _; omega, by show y.c ≤ _; omega, by show _ ≤ y.c + _; omega⟩
theorem Ver.Cl.putk {n k : Nat} {x y : Ver} (h : Ver.Cl n x y) (hk : k < 3) {e : Int} (h1 : -2 ≤ e) (h2 : e ≤ 6) : Ver.Cl (n + 6) x (Ver.put y k (if y.l.getD k 0 + e > 0 then y.l.getD k 0 + e else 0)) := by
  obtain ⟨⟨a0, b0, c0, d9, d0⟩, a1, b1, c1, c2⟩ := h
  match k, hk with
  | 0, _ =>
    refine ⟨⟨?_, b0, c0, d9, d0⟩, ?_, by show y.b ≤ _; omega, by show y.c ≤ _; omega, by show _ ≤ y.c + _; omega⟩
    · show 0 ≤ (if y.a + e > 0 then y.a + e else 0)
      split <;> omega
    · show (if y.a + e > 0 then y.a + e else 0) ≤ _
      split <;> omega
  | 1, _ =>
    refine ⟨⟨a0, ?_, c0, d9, d0⟩, by show y.a ≤ _; omega, ?_, by show y.c ≤ _; omega, by show _ ≤ y.c + _; omega⟩
    · show 0 ≤ (if y.b + e > 0 then y.b + e else 0)
      split <;> omega
    · show (if y.b + e > 0 then y.b + e else 0) ≤ _
      split <;> omega
  | 2, _ =>
    refine ⟨⟨a0, b0, ?_, d9, d0⟩, by show y.a ≤ _; omega, by show y.b ≤ _; omega, ?_, ?_⟩
    · show 0 ≤ (if y.c + e > 0 then y.c + e else 0)
      split <;> omega
    · show (if y.c + e > 0 then y.c + e else 0) ≤ _
      split <;> omega
    · show _ ≤ (if y.c + e > 0 then y.c + e else 0) + _
      split <;> omega
def spClose : Sp := fun vs H Q _ => ∃ t n v x, vs = [.ref t, v] ∧ Tin t n H ∧ n ≤ 10000 ∧ TupAt H v x ∧ x.Ok ∧ ∀ H' r y, Sx t H H' → Tin t (n + 5) H' → TupAt H' r y → Ver.Cl 12 x y → Q r H'
section
variable {P : Program} {w : World} {K : PySem.W.Frag} {mg : Str → Option Value} {base : Heap}
theorem d_close (B : Bi mg) (E : De K mg "_law_close" s_w_close P_w_close) (D_w_take : Dn P w K mg base 1 "_law_take" P_w_take spTake) (D_w_of : Dn P w K mg base 2 "_law_of" P_w_of spOf) : Dn P w K mg base 3 "_law_close" P_w_close spClose :=
  E.dn fun f fd F => F.ok sc_w_close (fun vs H Q E h => by obtain ⟨_, _, _, _, rfl, _⟩ := h; rfl) fun cdv A outer s H vs Q E hr h => by
    obtain ⟨t, n, v, x, rfl, tin, hn, ⟨p, rfl, hp⟩, ox, q⟩ := h
    refine ⟨_, (pss_cons (ps_set (i := 2) sc_w_close.nd rfl (Or.inl rfl) (pe_callTy call_list_of (by rfl) B.list (by decide +kernel) (pa_cons (pv 1) pa_nil)))
      (pss_cons (ps_for PassesOwn.never rfl (pi_range1 (by rfl) B.range (pa_cons (pe_op op_add pe_int (pe_dn D_w_take (hr.mono (by decide)) rfl (pa_cons (pv 0) (pa_cons pe_int pa_nil)))) pa_nil)) (pg_name (i := 3) sc_w_close.nd rfl (Or.inl rfl)) (pss_cons (ps_set (i := 4) sc_w_close.nd rfl (Or.inl rfl) (pe_dn D_w_take (hr.mono (by decide)) rfl (pa_cons (pv 0) (pa_cons pe_int pa_nil))))
      (pss_one (ps_asg (pe_ifExp (pt_cmpR op_eq (pv 4) pe_int (nomark _)) (pe_dn D_w_of (hr.mono (by decide)) rfl (pa_cons (pv 0) (pa_cons (pe_lst (pa_cons pe_int (pa_cons (pe_un un_neg pe_int) (pa_cons (pe_un un_neg pe_int) (pa_cons (pe_un un_neg pe_int) (pa_cons (pe_un un_neg pe_int) pa_nil)))))) pa_nil))) (pe_callB (call_max2 rfl) (by rfl) B.max (by decide +kernel) (pa_cons pe_int (pa_cons (pe_op op_add (pe_ix ix_seq (pv 2) (pv 4) (fun _ _ => rfl)) (pe_dn D_w_of (hr.mono (by decide)) rfl (pa_cons (pv 0) (pa_cons (pe_lst (pa_cons pe_int (pa_cons (pe_un un_neg pe_int) (pa_cons pe_int (pa_cons (pe_un un_neg pe_int) (pa_cons pe_int pa_nil)))))) pa_nil)))) pa_nil)))) (pg_sub (pv 2) (pv 4) set_list)))))
      (pss_one (ps_ret (pe_callTy call_tup (by rfl) B.tuple (by decide +kernel) (pa_cons (pv 2) pa_nil)))))), ?_⟩
    refine ⟨_, rfl, p, _, rfl, .inr (SqT.of hp), fun O nO => ?_⟩
    have s1 : Same H (upd H O (.lst (x.l.map V.int))) := sn nO
    have hO : upd H O (.lst (x.l.map V.int)) O = some (.lst (x.l.map V.int)) := upd_same
    have neO : O ≠ t := tin.ne nO
    have tin1 := tin.same s1
    generalize upd H O (.lst (x.l.map V.int)) = H1 at s1 hO tin1
    refine ⟨_, rfl, t, n, 2, rfl, tin1, by omega, by decide, by decide, fun H2 d sx2 tin2 d0 d1 => ⟨_, _, rfl, rfl, rd_nil ⟨_, rfl, by omega, by omega, ?_⟩⟩⟩
    refine for_range (lo := 0) (n := (1 + d).toNat) (fun i σ H' => (∃ z3 z4 y, σ = [some (.ref t), some (.ref p), some (.ref O), z3, z4] ∧ H' O = some (.lst (y.l.map V.int)) ∧ Ver.Cl (6 * i) x y) ∧ Sx t H H' ∧ Tin t (n + 1 + 2 * i) H')
      ⟨⟨none, none, x, rfl, sx2 _ _ neO hO, ⟨ox, by omega, by omega, by omega, by omega⟩⟩, s1.sx.trans sx2, tin2⟩ ?_ ?_
    · rintro i σ H' hi ⟨⟨z3, z4, y, rfl, ho, cl⟩, sx, tn⟩
      have hi2 : i < 2 := by omega
      refine ⟨_, rfl, t, _, 4, rfl, tn, by omega, by decide, by decide, fun H3 k sx3 tn3 k0 k1 => ?_⟩
      have ho3 := sx3 _ _ neO ho
      have sx13 := sx.trans sx3
      obtain ⟨m, rfl⟩ : ∃ m : Nat, k = (m : Int) := ⟨k.toNat, by omega⟩
      have hm : m < 4 := by omega
      have fin : ∀ (H5 : Hp) (e : Int), Sx t H3 H5 → Tin t (n + 1 + 2 * i + 1 + 1) H5 → Ver.Cl (6 * i + 6) x (Ver.put y m e) → H5 O = some (.lst (y.l.map V.int)) → rSetL (V.ref O) (V.int (m : Int)) (V.int e) H5 (fun H6 => (∃ z3 z4 y, [some (V.ref t), some (V.ref p), some (V.ref O), some (V.int (0 + (i : Int))), some (V.int (m : Int))] = [some (V.ref t), some (V.ref p), some (V.ref O), z3, z4] ∧ H6 O = some (.lst (y.l.map V.int)) ∧ Ver.Cl (6 * (i + 1)) x y) ∧ Sx t H H6 ∧ Tin t (n + 1 + 2 * (i + 1)) H6) := by
        intro H5 e sx5 tn5 cl5 ho5
        refine setl (j := m) (ys := (Ver.put y m e).l.map V.int) ho5 hm (put_l y hm e) ⟨⟨_, _, _, rfl, upd_same, cl5⟩, fun b o nb hb => ?_, ?_⟩
        · rw [upd_ne (ne_of_none hb nO)]
          exact (sx13.trans sx5) _ _ nb hb
        · obtain ⟨a, b, c, ht, r⟩ := tn5
          exact Tin.mono ⟨a, b, c, by rw [upd_ne neO.symm]; exact ht, r⟩ (by omega)
      refine ⟨_, rfl, rfl, _, rfl, ite2 (fun c => ?_) (fun c => ?_)⟩
      · have em : m = 3 := by
          have c := V.int.inj (of_decide_eq_true c)
          omega
        refine ⟨_, rfl, _, rfl, _, rfl, _, rfl, _, rfl, fewL (by show 5 ≤ 1000; decide), fun O2 nO2 => ⟨t, _, O2, _, rfl, tn3.same (sn nO2), by omega, tn3.ne nO2, upd_same, by simp, by show 5 ≤ 1000; decide, fun H5 v sx5 tn5 mem => ?_⟩⟩
        obtain ⟨e, rfl, e1, e2⟩ : ∃ e : Int, v = .int e ∧ -9 ≤ e ∧ e ≤ 0 := by
          simp only [List.mem_cons, List.not_mem_nil, or_false] at mem
          rcases mem with rfl | rfl | rfl | rfl | rfl <;> exact ⟨_, rfl, by decide, by decide⟩
        refine ⟨_, rfl, _, rfl, fin H5 e ((sn nO2).sx.trans sx5) tn5 (by rw [em]; exact cl.put3 e1 e2) (sx5 _ _ neO (sn nO2 _ _ ho3))⟩
      · have em : m < 3 := by
          have c : ¬ V.int (m : Int) = V.int 3 := fun e => c (decide_eq_true e)
          have c2 : m ≠ 3 := fun e => c (by rw [e]; rfl)
          omega
        have gy : (y.l.map V.int)[m]? = some (.int (y.l.getD m 0)) := by
          have hl : m < y.l.length := hm
          rw [List.getElem?_map, List.getD_eq_getElem?_getD, List.getElem?_eq_getElem hl]
          rfl
        refine ⟨_, rfl, _, rfl, ixl ho3 gy ⟨_, rfl, _, rfl, _, rfl, fewL (by show 5 ≤ 1000; decide), fun O2 nO2 => ⟨t, _, O2, _, rfl, tn3.same (sn nO2), by omega, tn3.ne nO2, upd_same, by simp, by show 5 ≤ 1000; decide, fun H5 v sx5 tn5 mem => ?_⟩⟩⟩
        obtain ⟨e, rfl, e1, e2⟩ : ∃ e : Int, v = .int e ∧ -2 ≤ e ∧ e ≤ 6 := by
          simp only [List.mem_cons, List.not_mem_nil, or_false] at mem
          rcases mem with rfl | rfl | rfl | rfl | rfl <;> exact ⟨_, rfl, by decide, by decide⟩
        have key := fin H5 (if y.l.getD m 0 + e > 0 then y.l.getD m 0 + e else 0) ((sn nO2).sx.trans sx5) tn5 (cl.putk em e1 e2) (sx5 _ _ neO (sn nO2 _ _ ho3))
        exact ⟨_, _, rfl, rfl, _, _, rfl, _, rfl, _, rfl, key⟩
    · rintro σ H' ⟨⟨z3, z4, y, rfl, ho, cl⟩, sx, tn⟩
      refine ⟨_, rfl, rd_nil (tupOf (.inr ho) fun r H3 s3 h3 => q _ _ y (sx.trans s3.sx) ((tn.same s3).mono (by omega)) ⟨r, rfl, h3⟩ ?_)⟩
      exact ⟨cl.ok, by have := cl.a1; omega, by have := cl.b1; omega, by have := cl.c1; omega, by have := cl.c2; omega⟩
end

structure Ver.Lo (x : Ver) : Prop where
  ok : x.Ok
  a1 : x.a ≤ 70
  b1 : x.b ≤ 70
  c1 : x.c ≤ 70
def spSome : Sp := fun vs H Q _ => ∃ t n, vs = [.ref t] ∧ Tin t n H ∧ n ≤ 10000 ∧ ∀ H' r x, Sx t H H' → Tin t (n + 4) H' → TupAt H' r x → Ver.Lo x → Q r H'
theorem sxadd {t p : Addr} {H H' : Hp} {o : HO} (e : Sx t H H') (h : H p = none) : Sx t H (upd H' p o) := fun b u nb hb => by
  rw [upd_ne (ne_of_none hb h)]
  exact e b u nb hb
theorem Tin.put {t p : Addr} {n : Nat} {H : Hp} {o : HO} (h : Tin t n H) (ne : p ≠ t) : Tin t n (upd H p o) := by
  obtain ⟨a, b, c, ht, r⟩ := h
  exact ⟨a, b, c, by rw [upd_ne ne.symm]; exact ht, r⟩
section
variable {P : Program} {w : World} {K : PySem.W.Frag} {mg : Str → Option Value} {base : Heap}
theorem d_some (B : Bi mg) (E : De K mg "_law_some" s_w_some P_w_some) (D_w_of : Dn P w K mg base 2 "_law_of" P_w_of spOf) : Dn P w K mg base 3 "_law_some" P_w_some spSome :=
  E.dn fun f fd F => F.ok sc_w_some (fun vs H Q E h => by obtain ⟨_, _, rfl, _⟩ := h; rfl) fun cdv A outer s H vs Q E hr h => by
    obtain ⟨t, n, rfl, tin, hn, q⟩ := h
    refine ⟨_, (pss_cons (ps_setLc (i := 1) rfl sc_w_some.nd rfl rfl (sw_true rfl rfl rfl (by decide +kernel)) (own := [("_law_k", 2)]) (pi_range1 (by rfl) B.range (pa_cons pe_int pa_nil)) (blkOk_by (N := N_w_some) (sc := defScope s_w_some) (by decide +kernel)) (fun _ _ _ _ _ => (pg_name (i := 2) sc_w_some.nd rfl (Or.inl rfl))) (fun _ _ _ _ _ => pts_nil) (fun _ _ _ _ _ => (pe_dn D_w_of (hr.mono (by decide)) rfl (pa_cons (pv 0) (pa_cons (pe_lst (pa_cons pe_int (pa_cons pe_int (pa_cons pe_int (pa_cons pe_int (pa_cons pe_int (pa_cons pe_int (pa_cons pe_int (pa_cons pe_int pa_nil))))))))) pa_nil)))))
      (pss_one (ps_ret (pe_op op_catA (pe_callTy call_tup (by rfl) B.tuple (by decide +kernel) (pa_cons (pv 1) pa_nil)) (pe_tup (pa_cons (pe_dn D_w_of (hr.mono (by decide)) rfl (pa_cons (pv 0) (pa_cons (pe_lst (pa_cons pe_int (pa_cons pe_int (pa_cons (pe_un un_neg pe_int) (pa_cons (pe_un un_neg pe_int) (pa_cons (pe_un un_neg pe_int) pa_nil)))))) pa_nil))) pa_nil)))))), ?_⟩
    refine ⟨_, rfl, (by decide), (by decide), fun D nD => lc_range (lo := 0) (n := 3) (fun i H' => Sx t H H' ∧ Tin t (n + i) H' ∧ ∃ xs : List Int, H' D = some (.lst (xs.map V.int)) ∧ xs.length = i ∧ ∀ a ∈ xs, 0 ≤ a ∧ a ≤ 70) ?_ ?_ ?_⟩
    · exact ⟨sxadd (Sx.refl t H) nD, tin.put (tin.ne nD), [], upd_same, rfl, fun a h => by cases h⟩
    · rintro i H' hi ⟨sx, tn, xs, hD, lx, bx⟩
      refine ⟨rfl, rd_yes (iteT ⟨_, rfl, fewL (by show 8 ≤ 1000; decide), fun O2 nO2 => ⟨t, _, O2, _, rfl, tn.same (sn nO2), by omega, tn.ne nO2, upd_same, by simp, by show 8 ≤ 1000; decide, fun H5 v sx5 tn5 mem => ?_⟩⟩)⟩
      obtain ⟨e, rfl, e1, e2⟩ : ∃ e : Int, v = .int e ∧ 0 ≤ e ∧ e ≤ 70 := by
        simp only [List.mem_cons, List.not_mem_nil, or_false] at mem
        rcases mem with rfl | rfl | rfl | rfl | rfl | rfl | rfl | rfl <;> exact ⟨_, rfl, by decide, by decide⟩
      have neD : D ≠ t := tin.ne nD
      refine ⟨_, sx5 _ _ neD (sn nO2 _ _ hD), small1000 (by rw [List.length_map]; omega), ?_, tn5.put neD, xs ++ [e], ?_, ?_, ?_⟩
      · exact sxadd (sx.trans ((sn nO2).sx.trans sx5)) nD
      · rw [upd_same, List.map_append]; rfl
      · rw [List.length_append, lx]; rfl
      · intro a ha
        rcases List.mem_append.mp ha with ha | ha
        · exact bx a ha
        · rw [List.mem_singleton.mp ha]; exact ⟨e1, e2⟩
    · rintro H' ⟨sx, tn, xs, hD, lx, bx⟩
      have neD : D ≠ t := tin.ne nD
      refine ⟨_, rfl, rd_nil (tupOf (.inr hD) fun r H3 s3 h3 => ?_)⟩
      have tn3 := tn.same s3
      refine ⟨_, rfl, _, rfl, _, rfl, _, rfl, fewL (by show 5 ≤ 1000; decide), fun O2 nO2 => ⟨t, _, O2, _, rfl, tn3.same (sn nO2), by omega, tn3.ne nO2, upd_same, by simp, by show 5 ≤ 1000; decide, fun H5 v sx5 tn5 mem => ?_⟩⟩
      obtain ⟨e, rfl, e1, e2⟩ : ∃ e : Int, v = .int e ∧ -9 ≤ e ∧ e ≤ 0 := by
        simp only [List.mem_cons, List.not_mem_nil, or_false] at mem
        rcases mem with rfl | rfl | rfl | rfl | rfl <;> exact ⟨_, rfl, by decide, by decide⟩
      refine ⟨fewL (by show 1 ≤ 1000; decide), fun T nT => ?_⟩
      have s5 : Sx t H3 H5 := (sn nO2).sx.trans sx5
      have h5 : H5 r = some (.tup (xs.map V.int)) := tn3.t0 s5 _ _ h3
      refine catt (ys := [.int e]) (sn nT _ _ h5) upd_same (fun z => ?_) (by simp) ?_ fun R nR => ?_
      · rw [List.map_eq_nil_iff] at z
        rw [z] at lx
        cases lx
      · rw [List.length_map, lx]; show 3 + 1 ≤ 1000; decide
      · match xs, lx with
        | [a, b, c], _ =>
          obtain ⟨a0, a1⟩ := bx a (by simp)
          obtain ⟨b0, b1⟩ := bx b (by simp)
          obtain ⟨c0, c1⟩ := bx c (by simp)
          have s6 : Same H5 (upd (upd H5 T (.tup [.int e])) R (.tup ([a, b, c].map V.int ++ [.int e]))) := (sn nT).trans (sn nR)
          exact q _ _ ⟨a, b, c, e⟩ ((sx.trans s3.sx).trans (s5.trans s6.sx)) (tn5.same s6) ⟨R, rfl, upd_same⟩ ⟨⟨a0, b0, c0, e1, e2⟩, a1, b1, c1⟩
end

def spNo : Sp := fun _ _ _ _ => False
def spLi : Sp := fun vs H Q _ => ∃ i, vs = [.int i] ∧ ∀ H', Same H H' → Q (.int i) H'
def spLv : Sp := fun vs H Q _ => ∃ p x, vs = [.ref p] ∧ H p = some (.tup (Ver.l x |>.map V.int)) ∧ ∀ r H', Same H H' → H r = none → H' r = some (.lst (x.l.map V.int)) → Q (.ref r) H'
def spLl : Sp := fun vs H Q _ => ∃ p xs lot, vs = [.ref p] ∧ H p = some (.lst xs) ∧ DRs H xs (lot.map dV) ∧ lot.length < 64 ∧ ∀ r H', Same H H' → LotAt H' r lot → Q r H'
/-- the same, as lists -/
def dL (v : Ver) : PyData := .list (v.l.map .int)
theorem okTs_map {lot : List Ver} : okTs (lot.map dL) = true := by
  induction lot with
  | nil => rfl
  | cons v lot ih =>
    show (okT (dL v) && okTs (lot.map dL)) = true
    rw [ih]
    rfl
theorem depth_dL {lot : List Ver} : PyData.depthAll (lot.map dL) ≤ 1 := by
  induction lot with
  | nil => exact Nat.zero_le _
  | cons v lot ih =>
    show max (PyData.depth (dL v)) (PyData.depthAll (lot.map dL)) ≤ 1
    have : PyData.depth (dL v) = 1 := rfl
    omega
theorem tupDs_dL {lot : List Ver} : tupDs (lot.map dL) = lot.map dV := by
  induction lot with
  | nil => rfl
  | cons v lot ih =>
    show tupD (dL v) :: tupDs (lot.map dL) = dV v :: lot.map dV
    rw [ih]
    rfl
theorem drs_dL {H : Hp} : ∀ (L : List (Addr × Ver)), (∀ p ∈ L, H p.1 = some (.lst (p.2.l.map V.int))) → DRs H (L.map fun p => V.ref p.1) (L.map fun p => dL p.2)
  | [], _ => .nil
  | p :: L, h => .cons (.lst (h p List.mem_cons_self) (drs_ints _)) (drs_dL L fun q hq => h q (List.mem_cons_of_mem _ hq))
theorem lot_dL {H : Hp} {D : Addr} {L : List (Addr × Ver)} {lot : List Ver} (e : L.map Prod.snd = lot) (hl : lot.length ≤ 1000) (hD : H D = some (.lst (L.map fun p => V.ref p.1))) (h : ∀ p ∈ L, H p.1 = some (.lst (p.2.l.map V.int))) : LotAt H (.ref D) lot := by
  refine ⟨.list (lot.map dL), .lst hD ?_, ?_, ?_, ?_⟩
  · subst e
    rw [List.map_map]
    exact drs_dL L h
  · show (decide ((lot.map dL).length ≤ 1000) && okTs (lot.map dL)) = true
    rw [okTs_map, List.length_map, decide_eq_true hl]
    rfl
  · show PyData.depthAll (lot.map dL) + 1 < 3
    have := depth_dL (lot := lot)
    omega
  · show PyData.tuple (tupDs (lot.map dL)) = _
    rw [tupDs_dL]
section
variable {P : Program} {w : World} {K : PySem.W.Frag} {mg : Str → Option Value} {base : Heap}
theorem dn_no {x : Str} {st : Stmt} {ps : List Str} (E : De K mg x st ps) : Dn P w K mg base 0 x ps spNo := by
  obtain ⟨f, fd, F, m, b⟩ := E.ex
  exact ⟨f, fd, ⟨fun vs H Q E h => False.elim h, fun A outer s H args us vs Q E _ _ _ _ h => False.elim h⟩, m, F.kp, b, lk_of F⟩
theorem d_lists_i (B : Bi mg) (E : De K mg "_law_lists" s_w_lists P_w_lists) : Dn P w K mg base 1 "_law_lists" P_w_lists spLi :=
  E.dn fun f fd F => F.ok sc_w_lists (fun vs H Q E h => by obtain ⟨_, rfl, _⟩ := h; rfl) fun cdv A outer s H vs Q E' hr h => by
    obtain ⟨i, rfl, q⟩ := h
    have D_w_lists : Dn P w K mg base 0 "_law_lists" P_w_lists spNo := dn_no E
    refine ⟨_, (pss_one (ps_ret (pe_ifExp (pt_val (pe_callB call_isiT (by rfl) B.isinstance (by decide +kernel) (pa_cons (pv 0) (pa_cons (pe_tup (pa_cons (pe_bltn (v := .ty "list") (by rfl) B.list (by decide +kernel) rfl) (pa_cons (pe_bltn (v := .ty "tuple") (by rfl) B.tuple (by decide +kernel) rfl) pa_nil))) pa_nil)))) (pe_lc (own := [("_law_bit", 1)]) rfl sc_w_lists.nd (pi_or (pi_list (pv 0)) (pi_tup (pv 0))) (blkOk_by (N := N_w_lists) (sc := defScope s_w_lists) (by decide +kernel)) (fun _ _ _ _ _ => (pg_name (i := 1) sc_w_lists.nd rfl (Or.inl rfl))) (fun _ _ _ _ _ => pts_nil) (fun _ _ _ _ _ => (pe_dn D_w_lists hr rfl (pa_cons (pv 1) pa_nil)))) (pv 0)))), ?_⟩
    refine ⟨_, rfl, (by show 2 ≤ sizeLine; decide), fun tp htp => ?_⟩
    refine rd_nil (isi2 (DR.int i) upd_same (show kitB "int" "list" = some false by decide +kernel) (show kitB "int" "tuple" = some false by decide +kernel) ?_)
    exact ⟨_, rfl, iteF ⟨_, rfl, q _ (sn htp)⟩⟩
theorem d_lists_v (B : Bi mg) (E : De K mg "_law_lists" s_w_lists P_w_lists) : Dn P w K mg base 2 "_law_lists" P_w_lists spLv :=
  E.dn fun f fd F => F.ok sc_w_lists (fun vs H Q E h => by obtain ⟨_, _, rfl, _⟩ := h; rfl) fun cdv A outer s H vs Q E' hr h => by
    obtain ⟨p, x, rfl, hp, q⟩ := h
    have D_w_lists : Dn P w K mg base 1 "_law_lists" P_w_lists spLi := d_lists_i B E
    refine ⟨_, (pss_one (ps_ret (pe_ifExp (pt_val (pe_callB call_isiT (by rfl) B.isinstance (by decide +kernel) (pa_cons (pv 0) (pa_cons (pe_tup (pa_cons (pe_bltn (v := .ty "list") (by rfl) B.list (by decide +kernel) rfl) (pa_cons (pe_bltn (v := .ty "tuple") (by rfl) B.tuple (by decide +kernel) rfl) pa_nil))) pa_nil)))) (pe_lc (own := [("_law_bit", 1)]) rfl sc_w_lists.nd (pi_or (pi_list (pv 0)) (pi_tup (pv 0))) (blkOk_by (N := N_w_lists) (sc := defScope s_w_lists) (by decide +kernel)) (fun _ _ _ _ _ => (pg_name (i := 1) sc_w_lists.nd rfl (Or.inl rfl))) (fun _ _ _ _ _ => pts_nil) (fun _ _ _ _ _ => (pe_dn D_w_lists hr rfl (pa_cons (pv 1) pa_nil)))) (pv 0)))), ?_⟩
    refine ⟨_, rfl, (by show 2 ≤ sizeLine; decide), fun tp htp => ?_⟩
    have s0 : Same H (upd H tp (.tup [.ty "list", .ty "tuple"])) := sn htp
    refine rd_nil (isi2 (d := dV x) (TupAt.dr ⟨p, rfl, s0 _ _ hp⟩) upd_same (show kitB "tuple" "list" = some false by decide +kernel) (show kitB "tuple" "tuple" = some true by decide +kernel) ?_)
    generalize upd H tp (.tup [.ty "list", .ty "tuple"]) = H1 at s0
    refine ⟨_, rfl, iteT (.inr ?_)⟩
    refine ⟨_, rfl, p, rfl, ⟨_, SqT.of (s0 _ _ hp)⟩, fun D nD => lc_tup (xs := x.l.map V.int) (fun i H' => Same H1 H' ∧ H' D = some (.lst ((x.l.take i).map V.int))) ⟨sn nD, upd_same⟩ (fun i H' _ m => SqT.of (m.1 _ _ (s0 _ _ hp))) (fun i y H' hy m => ⟨rfl, rd_yes (iteT ⟨y, rfl, ?_⟩)⟩) fun H' m => ?_⟩
    · rw [List.getElem?_map] at hy
      cases e : x.l[i]? with
      | none => rw [e] at hy; cases hy
      | some a =>
        rw [e] at hy
        cases hy
        refine ⟨a, rfl, fun H2 s2 => ⟨_, s2 _ _ m.2, small1000 ?_, fun b o hb => ?_, ?_⟩⟩
        · rw [List.length_map, List.length_take]
          have : x.l.length = 4 := rfl
          omega
        · rw [upd_ne (ne_of_none hb nD)]
          exact s2 _ _ (m.1 _ _ hb)
        · rw [upd_same, List.take_add_one, e, List.map_append]
          rfl
    · rw [List.take_of_length_le (by rw [List.length_map]; exact Nat.le_refl _)] at m
      exact q _ _ (s0.trans m.1) (by
        cases hD : H D with
        | none => rfl
        | some o => rw [s0 _ _ hD] at nD; cases nD) m.2
theorem d_lists_l (B : Bi mg) (E : De K mg "_law_lists" s_w_lists P_w_lists) : Dn P w K mg base 3 "_law_lists" P_w_lists spLl :=
  E.dn fun f fd F => F.ok sc_w_lists (fun vs H Q E h => by obtain ⟨_, _, _, rfl, _⟩ := h; rfl) fun cdv A outer s H vs Q E' hr h => by
    obtain ⟨p, xs, lot, rfl, hp, dx, ll, q⟩ := h
    have D_w_lists : Dn P w K mg base 2 "_law_lists" P_w_lists spLv := d_lists_v B E
    refine ⟨_, (pss_one (ps_ret (pe_ifExp (pt_val (pe_callB call_isiT (by rfl) B.isinstance (by decide +kernel) (pa_cons (pv 0) (pa_cons (pe_tup (pa_cons (pe_bltn (v := .ty "list") (by rfl) B.list (by decide +kernel) rfl) (pa_cons (pe_bltn (v := .ty "tuple") (by rfl) B.tuple (by decide +kernel) rfl) pa_nil))) pa_nil)))) (pe_lc (own := [("_law_bit", 1)]) rfl sc_w_lists.nd (pi_or (pi_list (pv 0)) (pi_tup (pv 0))) (blkOk_by (N := N_w_lists) (sc := defScope s_w_lists) (by decide +kernel)) (fun _ _ _ _ _ => (pg_name (i := 1) sc_w_lists.nd rfl (Or.inl rfl))) (fun _ _ _ _ _ => pts_nil) (fun _ _ _ _ _ => (pe_dn D_w_lists hr rfl (pa_cons (pv 1) pa_nil)))) (pv 0)))), ?_⟩
    refine ⟨_, rfl, (by show 2 ≤ sizeLine; decide), fun tp htp => ?_⟩
    have s0 : Same H (upd H tp (.tup [.ty "list", .ty "tuple"])) := sn htp
    refine rd_nil (isi2 (d := .list (lot.map dV)) (.lst (s0 _ _ hp) (dx.mono s0)) upd_same (show kitB "list" "list" = some true by decide +kernel) (show kitB "list" "tuple" = some false by decide +kernel) ?_)
    generalize upd H tp (.tup [.ty "list", .ty "tuple"]) = H1 at s0
    have dx1 := dx.mono s0
    have hp1 := s0 _ _ hp
    refine ⟨_, rfl, iteT (.inl ?_)⟩
    refine ⟨_, rfl, p, rfl, ⟨_, SqL.of hp1⟩, fun D nD => lc_list (xs := xs) (fun i H' => Same H1 H' ∧ ∃ L : List (Addr × Ver), H' D = some (.lst (L.map fun p => V.ref p.1)) ∧ L.map Prod.snd = lot.take i ∧ ∀ p ∈ L, p.1 ≠ D ∧ H' p.1 = some (.lst (p.2.l.map V.int))) ⟨sn nD, [], upd_same, rfl, fun p h => by cases h⟩ (fun i H' _ m => SqL.of (m.1 _ _ hp1)) (fun i y H' hy m => ⟨rfl, rd_yes (iteT ⟨y, rfl, ?_⟩)⟩) fun H' m => ?_⟩
    · obtain ⟨m1, L, hD, eL, mL⟩ := m
      obtain ⟨u, eu, tu⟩ := dx1.verAt hy
      obtain ⟨o, rfl, ho⟩ := tu
      refine ⟨o, u, rfl, m1 _ _ ho, fun r H2 s2 hr2 h2 => ⟨_, s2 _ _ hD, small1000 ?_, fun b o hb => ?_, L ++ [(r, u)], ?_, ?_, fun p hp => ?_⟩⟩
      · have : L.length = (lot.take i).length := by rw [← eL, List.length_map]
        rw [List.length_map, this, List.length_take]
        omega
      · rw [upd_ne (ne_of_none hb nD)]
        exact s2 _ _ (m1 _ _ hb)
      · rw [upd_same, List.map_append]
        rfl
      · rw [List.map_append, eL, List.take_add_one, eu]
        rfl
      · have nr : r ≠ D := fun e => by rw [e, hD] at hr2; cases hr2
        rcases List.mem_append.mp hp with hp | hp
        · obtain ⟨n1, h1⟩ := mL p hp
          exact ⟨n1, by rw [upd_ne n1]; exact s2 _ _ h1⟩
        · rw [List.mem_singleton.mp hp]
          exact ⟨nr, by show upd H2 D _ r = _; rw [upd_ne nr]; exact h2⟩
    · obtain ⟨m1, L, hD, eL, mL⟩ := m
      rw [List.take_of_length_le (by rw [drs_vers lot dx]; exact Nat.le_refl _)] at eL
      exact q _ _ (s0.trans m1) (lot_dL eL (by omega) hD fun p hp => (mL p hp).2)
end

theorem walk_zipT {K : PySem.W.Frag} {a b : Addr} {xs ys : List V} (hn : xs.length = ys.length) : Walk (RZ.ItzT K a b) xs.length (fun H => SqT K H a xs ∧ SqT K H b ys) (YPair (fun i => xs[i]?) (fun i => ys[i]?)) := by
  refine ⟨fun i _ hi q => ?_, fun _ q => ⟨xs, ys, q.1, q.2, .inl (Nat.le_refl _)⟩, fun i H v H' _ q y => ?_⟩
  · exact ⟨xs, ys, xs[i], ys[i]'(by omega), q.1, q.2, List.getElem?_eq_getElem hi, List.getElem?_eq_getElem (by omega)⟩
  · obtain ⟨T, x, z, h1, h2, h3, h4, h5⟩ := y
    exact ⟨T, x, z, h1, h2, h3, h4 xs q.1, h5 ys q.2⟩
theorem walk_zipL {K : PySem.W.Frag} {a b : Addr} {xs ys : List V} (hn : xs.length = ys.length) : Walk (Itz K a b) xs.length (fun H => SqL K H a xs ∧ SqL K H b ys) (YPair (fun i => xs[i]?) (fun i => ys[i]?)) :=
  walk_zip (by omega)
theorem pg_tupx {X : Cx} {K : PySem.W.Frag} {pos : Pos} {es : List Expr} {k : Nat} {t : TGs} {n : Nat} (hc : X.calm = true) (h : PGs X es t) (ek : X.K = K := by rfl)
    (hn : (assignEach es X.env).length = n := by rfl) (hst : (assignEach es X.env).findIdx? (·.1) = none := by rfl) : PG X (.Tuple es k pos) (gTup K n t) := by
  subst ek
  exact pg_tup hc h hn hst
mutual
def okS : PyData → Bool
  | .none => true
  | .int _ => true
  | .list ds => decide (ds.length ≤ 1000) && okSs ds
  | .tuple ds => decide (ds.length ≤ 1000) && okSs ds
  | _ => false
def okSs : List PyData → Bool
  | [] => true
  | d :: ds => okS d && okSs ds
end
theorem okSs_mem : ∀ {ds : List PyData} {d : PyData}, okSs ds = true → d ∈ ds → okS d = true
  | d :: ds, e, h, m => by
    simp only [okSs, Bool.and_eq_true] at h
    rcases List.mem_cons.mp m with rfl | m
    · exact h.1
    · exact okSs_mem h.2 m
def spSame (n : Nat) : Sp := fun vs H Q _ => ∃ v w d, vs = [v, w] ∧ DR H v d ∧ DR H w d ∧ okS d = true ∧ d.depth < n ∧ n ≤ 60 ∧ ∀ H', Same H H' → Q (.bl true) H'
theorem eqTT {K : PySem.W.Frag} {H : Hp} {a : Bool} {Q : VK} (q : Q (.bl true) H) : rEqD K (.bl a) (.bl a) H Q :=
  ⟨.bool a, .bool a, .bl _, .bl _, rfl, rfl, by cases a <;> exact q⟩
theorem neBB {K : PySem.W.Frag} {H : Hp} {a : Bool} {Q : VK} (q : Q (.bl false) H) : rNeD K (.bl a) (.bl a) H Q :=
  ⟨.bool a, .bool a, .bl _, .bl _, rfl, rfl, by cases a <;> exact q⟩
/-- what a turn keeps while a list of True grows -/
def Trues (H : Hp) (D : Addr) (i : Nat) (H' : Hp) : Prop := Same H H' ∧ H D = none ∧ H' D = some (.lst ((List.replicate i true).map V.bl))
theorem Trues.start {H : Hp} {D : Addr} (h : H D = none) : Trues H D 0 (upd H D (.lst [])) := ⟨sn h, h, upd_same⟩
theorem Trues.turn {H H' H1 : Hp} {D : Addr} {i : Nat} (m : Trues H D i H') (hi : i < 1000) (s : Same H' H1) : ∃ acc, H1 D = some (.lst acc) ∧ acc.length < sizeLine ∧ Trues H D (i + 1) (upd H1 D (.lst (acc ++ [.bl true]))) := by
  refine ⟨_, s _ _ m.2.2, small1000 (by rw [List.length_map, List.length_replicate]; omega), fun b o hb => ?_, m.2.1, ?_⟩
  · rw [upd_ne (ne_of_none hb m.2.1)]
    exact s _ _ (m.1 _ _ hb)
  · rw [upd_same, List.replicate_succ', List.map_append]
    rfl
theorem all_trues {n : Nat} : (List.replicate n true).all id = true := by
  rw [List.all_eq_true]
  intro b hb
  exact (List.mem_replicate.mp hb).2
theorem Trues.rd {K : PySem.W.Frag} {H H' : Hp} {D : Addr} {i : Nat} {Q : VK} (m : Trues H D i H') (q : Q (.bl true) H') : L2.rAll K [.ref D] H' Q :=
  ⟨D, List.replicate i true, rfl, SqL.of m.2.2, by rw [all_trues]; exact q⟩
section
variable {P : Program} {w : World} {K : PySem.W.Frag} {mg : Str → Option Value} {base : Heap}
theorem step_same (B : Bi mg) (E : De K mg "_law_same" s_w_same P_w_same) {n : Nat} (D_w_same : Dn P w K mg base n "_law_same" P_w_same (spSame n)) : Dn P w K mg base (n + 1) "_law_same" P_w_same (spSame (n + 1)) :=
  E.dn fun f fd F => F.ok sc_w_same (fun vs H Q E h => by obtain ⟨_, _, _, rfl, _⟩ := h; rfl) fun cdv A outer s H vs Q E hr h => by
    obtain ⟨v, u, d, rfl, hv, hu, ok, dep, n60, q⟩ := h
    refine ⟨_, (pss_cons (ps_if (pt_val (pe_callB call_isiT (by rfl) B.isinstance (by decide +kernel) (pa_cons (pv 1) (pa_cons (pe_tup (pa_cons (pe_bltn (v := .ty "list") (by rfl) B.list (by decide +kernel) rfl) (pa_cons (pe_bltn (v := .ty "tuple") (by rfl) B.tuple (by decide +kernel) rfl) pa_nil))) pa_nil)))) (pss_cons (ps_if (PW.pt (pw_or (pt_cmpR (op_neD hr.units) (pe_callB call_isi (by rfl) B.isinstance (by decide +kernel) (pa_cons (pv 0) (pa_cons (pe_bltn (v := .ty "list") (by rfl) B.list (by decide +kernel) rfl) pa_nil))) (pe_callB call_isi (by rfl) B.isinstance (by decide +kernel) (pa_cons (pv 1) (pa_cons (pe_bltn (v := .ty "list") (by rfl) B.list (by decide +kernel) rfl) pa_nil))) (nomark _)) (pw_or1 (pt_cmpR (op_neD hr.units) (pe_callB call_isi (by rfl) B.isinstance (by decide +kernel) (pa_cons (pv 0) (pa_cons (pe_bltn (v := .ty "tuple") (by rfl) B.tuple (by decide +kernel) rfl) pa_nil))) (pe_callB call_isi (by rfl) B.isinstance (by decide +kernel) (pa_cons (pv 1) (pa_cons (pe_bltn (v := .ty "tuple") (by rfl) B.tuple (by decide +kernel) rfl) pa_nil))) (nomark _))))) (pss_one (ps_ret pe_bl)) pss_nil)
      (pss_one (ps_ret (pe_and (pe_cmpR op_eq (pe_callB call_len_seq (by rfl) B.len (by decide +kernel) (pa_cons (pv 0) pa_nil)) (pe_callB call_len_seq (by rfl) B.len (by decide +kernel) (pa_cons (pv 1) pa_nil)) (nomark _)) (pe_one (pe_callB (cr_all rfl) (by rfl) B.all (by decide +kernel) (pa_cons (pe_lc (own := [("_law_mine", 2), ("_law_its", 3)]) rfl sc_w_same.nd (RZ.pi_zipA (by rfl) B.zip (pa_cons (pv 0) (pa_cons (pv 1) pa_nil))) (blkOk_by (N := N_w_same) (sc := defScope s_w_same) (by decide +kernel)) (fun _ _ _ _ _ => (pg_tupx (K := K) (n := 2) rfl (pgs_cons (pg_name (i := 2) sc_w_same.nd rfl (Or.inl rfl)) (pgs_cons (pg_name (i := 3) sc_w_same.nd rfl (Or.inl rfl)) pgs_nil)))) (fun _ _ _ _ _ => pts_nil) (fun _ _ _ _ _ => (pe_dn D_w_same hr rfl (pa_cons (pv 2) (pa_cons (pv 3) pa_nil))))) pa_nil))))))) pss_nil)
      (pss_cons (ps_if (PW.pt (pw_or (pt_cmpR op_isN (pv 1) pe_non (nomark _)) (pw_or1 (pt_val (pe_callB call_isiT (by rfl) B.isinstance (by decide +kernel) (pa_cons (pv 1) (pa_cons (pe_tup (pa_cons (pe_bltn (v := .ty "bool") (by rfl) B.bool (by decide +kernel) rfl) (pa_cons (pe_bltn (v := .ty "str") (by rfl) B.str (by decide +kernel) rfl) pa_nil))) pa_nil))))))) (pss_one (ps_ret (pe_and (pe_cmpR (op_eqD hr.units) (pv 0) (pv 1) (nomark _)) (pe_and (pe_cmpR (op_eqD hr.units) (pe_callB call_isi (by rfl) B.isinstance (by decide +kernel) (pa_cons (pv 0) (pa_cons (pe_bltn (v := .ty "bool") (by rfl) B.bool (by decide +kernel) rfl) pa_nil))) (pe_callB call_isi (by rfl) B.isinstance (by decide +kernel) (pa_cons (pv 1) (pa_cons (pe_bltn (v := .ty "bool") (by rfl) B.bool (by decide +kernel) rfl) pa_nil))) (nomark _)) (pe_one (pe_cmpR (op_eqD hr.units) (pe_cmpR op_isN (pv 0) pe_non (nomark _)) (pe_cmpR op_isN (pv 1) pe_non (nomark _)) (nomark _))))))) pss_nil)
      (pss_one (ps_ret (pe_and (pe_callB call_isi (by rfl) B.isinstance (by decide +kernel) (pa_cons (pv 0) (pa_cons (pe_bltn (v := .ty "int") (by rfl) B.int (by decide +kernel) rfl) pa_nil))) (pe_and (pe_not (pe_callB call_isi (by rfl) B.isinstance (by decide +kernel) (pa_cons (pv 0) (pa_cons (pe_bltn (v := .ty "bool") (by rfl) B.bool (by decide +kernel) rfl) pa_nil)))) (pe_one (pe_cmpR (op_eqD hr.units) (pv 0) (pv 1) (nomark _))))))))), ?_⟩
    refine ⟨_, rfl, (by show 2 ≤ sizeLine; decide), fun tp htp => ?_⟩
    have s0 : Same H (upd H tp (.tup [.ty "list", .ty "tuple"])) := sn htp
    have hv0 := hv.mono s0
    have hu0 := hu.mono s0
    -- the turns of the two sides' walk
    have turn : ∀ (ds : List PyData) (xs ys : List V), DRs H xs ds → DRs H ys ds → okSs ds = true → ds.length ≤ 1000 → PyData.depthAll ds < n → ∀ (D : Addr) (H1 : Hp), Same H H1 → ∀ (i : Nat) (x y : V) (H' : Hp), xs[i]? = some x → ys[i]? = some y → Trues H1 D i H' →
        ∀ (T : Addr), H' T = none → spSame n ([x, y] ++ []) (upd H' T (.tup [x, y])) (fun y H4 => ∃ acc, H4 D = some (.lst acc) ∧ acc.length < sizeLine ∧ Trues H1 D (i + 1) (upd H4 D (.lst (acc ++ [y])))) E0 := by
      intro ds xs ys hx hy oks len dp D H1 s1 i x y H' ex ey m T nT
      obtain ⟨e, he, dx⟩ := hx.get ex
      obtain ⟨e2, he2, dy⟩ := hy.get ey
      have : e2 = e := by rw [he] at he2; cases he2; rfl
      subst this
      have me : e2 ∈ ds := List.mem_of_getElem? he
      have s2 : Same H (upd H' T (.tup [x, y])) := (s1.trans m.1).trans (sn nT)
      have hi : i < ds.length := (List.getElem?_eq_some_iff.mp he).1
      refine ⟨x, y, e2, rfl, dx.mono s2, dy.mono s2, okSs_mem oks me, by have := depth_mem me; omega, by omega, fun H2 s3 => ?_⟩
      exact m.turn (by omega) ((sn nT).trans s3)
    generalize hH0 : upd H tp (.tup [.ty "list", .ty "tuple"]) = H0 at s0 hv0 hu0
    have ht : H0 tp = some (.tup [.ty "list", .ty "tuple"]) := by rw [← hH0]; exact upd_same
    cases hu with
    | int i =>
      cases hv
      refine rd_nil (isi2 hu0 ht (show kitB "int" "list" = some false by decide +kernel) (show kitB "int" "tuple" = some false by decide +kernel) ?_)
      refine ⟨_, rfl, iteF ?_⟩
      refine ⟨_, rfl, rfl, _, rfl, iteF ?_⟩
      refine ⟨_, rfl, (by show 2 ≤ sizeLine; decide), fun t2 n2 => rd_nil (isi2 (hu0.mono (sn n2)) upd_same (show kitB "int" "bool" = some false by decide +kernel) (show kitB "int" "str" = some false by decide +kernel) ⟨_, rfl, iteF ?_⟩)⟩
      have s2 := s0.trans (sn (o := .tup [.ty "bool", .ty "str"]) n2)
      generalize upd H0 t2 (.tup [.ty "bool", .ty "str"]) = H2 at s2
      refine ⟨_, rfl, rd_c1 (isi (DR.int i) (show kitB "int" "int" = some true by decide +kernel) ⟨_, rfl, iteT ?_⟩)⟩
      refine ⟨_, rfl, rd_c1 (isi (DR.int i) (show kitB "int" "bool" = some false by decide +kernel) ⟨false, rfl, ?_⟩)⟩
      refine ⟨_, rfl, iteT ⟨V.int i, rfl, V.int i, rfl, PyData.int i, PyData.int i, .int _, .int _, rfl, rfl, ?_⟩⟩
      have e : PyData.eqv (.int i) (.int i) = true := by
        show (i == i) = true
        simp
      rw [e]
      exact q _ s2
    | non =>
      cases hv
      refine rd_nil (isi2 hu0 ht (show kitB "NoneType" "list" = some false by decide +kernel) (show kitB "NoneType" "tuple" = some false by decide +kernel) ?_)
      refine ⟨_, rfl, iteF ?_⟩
      refine ⟨_, rfl, rfl, _, rfl, iteT ?_⟩
      refine ⟨_, rfl, _, rfl, .none, .none, .non, .non, rfl, rfl, _, rfl, iteT ?_⟩
      refine ⟨_, rfl, rd_c1 (isi DR.non (show kitB "NoneType" "bool" = some false by decide +kernel) ⟨_, rfl, rd_c1 (isi DR.non (show kitB "NoneType" "bool" = some false by decide +kernel) (eqTT ⟨_, rfl, iteT ?_⟩))⟩)⟩
      exact ⟨_, rfl, rfl, _, rfl, rfl, eqTT (q _ s0)⟩
    | bl b => simp [okS] at ok
    | @tup a ys ds h1 h2 =>
      simp only [okS, Bool.and_eq_true, decide_eq_true_eq] at ok
      refine rd_nil (isi2 hu0 ht (show kitB "tuple" "list" = some false by decide +kernel) (show kitB "tuple" "tuple" = some true by decide +kernel) ?_)
      refine ⟨_, rfl, iteT ?_⟩
      cases hv with
      | @tup c xs _ g1 g2 =>
      have dp : PyData.depthAll ds < n := by
        have : PyData.depthAll ds + 1 < n + 1 := dep
        omega
      refine ⟨_, rfl, rd_c1 (isi hv0 (show kitB "tuple" "list" = some false by decide +kernel) ⟨_, rfl, rd_c1 (isi hu0 (show kitB "tuple" "list" = some false by decide +kernel) (neBB ⟨_, rfl, iteF ?_⟩))⟩)⟩
      refine ⟨_, rfl, rd_c1 (isi hv0 (show kitB "tuple" "tuple" = some true by decide +kernel) ⟨_, rfl, rd_c1 (isi hu0 (show kitB "tuple" "tuple" = some true by decide +kernel) (neBB ⟨_, rfl, iteF ?_⟩))⟩)⟩
      have k1 := s0 _ _ g1
      have k2 := s0 _ _ h1
      have lx := g2.len
      have ly := h2.len
      refine ⟨_, rfl, rd_nil ⟨c, xs, rfl, .inr (SqT.of k1), _, rfl, rd_nil ⟨a, ys, rfl, .inr (SqT.of k2), ?_⟩⟩⟩
      refine ⟨rfl, _, rfl, ite2 (fun _ => ?_) (fun c => absurd (by rw [lx, ly]; exact decide_eq_true rfl) c)⟩
      refine ⟨_, rfl, _, rfl, c, a, xs, ys, rfl, .inr ⟨SqT.of k1, SqT.of k2, fun D nD => lc_it (walk_zipT (by omega)) (Trues H0 D) (Trues.start nD) (fun i H' _ m => ⟨SqT.of (m.1 _ _ k1), SqT.of (m.1 _ _ k2)⟩) ?_ ?_⟩⟩
      · rintro i x H' H2 hi m ⟨T, y, z, rfl, nT, rfl, ey, ez⟩
        refine ⟨T, _, rfl, SqT.of upd_same, rfl, _, _, rfl, _, _, rfl, rfl, ?_⟩
        refine ⟨rfl, rd_yes (iteT ⟨_, rfl, _, rfl, ?_⟩)⟩
        exact turn ds xs ys g2 h2 ok.2 ok.1 dp D H0 s0 i y z H' ey ez m T nT
      · intro H' m
        exact rd_nil (m.rd (q _ (s0.trans m.1)))
    | @lst a ys ds h1 h2 =>
      simp only [okS, Bool.and_eq_true, decide_eq_true_eq] at ok
      refine rd_nil (isi2 hu0 ht (show kitB "list" "list" = some true by decide +kernel) (show kitB "list" "tuple" = some false by decide +kernel) ?_)
      refine ⟨_, rfl, iteT ?_⟩
      cases hv with
      | @lst c xs _ g1 g2 =>
      have dp : PyData.depthAll ds < n := by
        have : PyData.depthAll ds + 1 < n + 1 := dep
        omega
      refine ⟨_, rfl, rd_c1 (isi hv0 (show kitB "list" "list" = some true by decide +kernel) ⟨_, rfl, rd_c1 (isi hu0 (show kitB "list" "list" = some true by decide +kernel) (neBB ⟨_, rfl, iteF ?_⟩))⟩)⟩
      refine ⟨_, rfl, rd_c1 (isi hv0 (show kitB "list" "tuple" = some false by decide +kernel) ⟨_, rfl, rd_c1 (isi hu0 (show kitB "list" "tuple" = some false by decide +kernel) (neBB ⟨_, rfl, iteF ?_⟩))⟩)⟩
      have k1 := s0 _ _ g1
      have k2 := s0 _ _ h1
      have lx := g2.len
      have ly := h2.len
      refine ⟨_, rfl, rd_nil ⟨c, xs, rfl, .inl (SqL.of k1), _, rfl, rd_nil ⟨a, ys, rfl, .inl (SqL.of k2), ?_⟩⟩⟩
      refine ⟨rfl, _, rfl, ite2 (fun _ => ?_) (fun c => absurd (by rw [lx, ly]; exact decide_eq_true rfl) c)⟩
      refine ⟨_, rfl, _, rfl, c, a, xs, ys, rfl, .inl ⟨SqL.of k1, SqL.of k2, fun D nD => lc_it (walk_zipL (by omega)) (Trues H0 D) (Trues.start nD) (fun i H' _ m => ⟨SqL.of (m.1 _ _ k1), SqL.of (m.1 _ _ k2)⟩) ?_ ?_⟩⟩
      · rintro i x H' H2 hi m ⟨T, y, z, rfl, nT, rfl, ey, ez⟩
        refine ⟨T, _, rfl, SqT.of upd_same, rfl, _, _, rfl, _, _, rfl, rfl, ?_⟩
        refine ⟨rfl, rd_yes (iteT ⟨_, rfl, _, rfl, ?_⟩)⟩
        exact turn ds xs ys g2 h2 ok.2 ok.1 dp D H0 s0 i y z H' ey ez m T nT
      · intro H' m
        exact rd_nil (m.rd (q _ (s0.trans m.1)))
theorem d_same (B : Bi mg) (E : De K mg "_law_same" s_w_same P_w_same) : ∀ n, Dn P w K mg base n "_law_same" P_w_same (spSame n)
  | 0 => by
    obtain ⟨f, fd, F, m, b⟩ := E.ex
    have no : ∀ vs H Q E, ¬ spSame 0 vs H Q E := fun vs H Q E h => by
      obtain ⟨_, _, _, _, _, _, _, h, _⟩ := h
      exact Nat.not_lt_zero _ h
    exact ⟨f, fd, ⟨fun vs H Q E h => absurd h (no vs H Q E), fun A outer s H args us vs Q E _ _ _ _ h => absurd h (no vs H Q E)⟩, m, F.kp, b, lk_of F⟩
  | n + 1 => step_same B E (d_same B E n)
end

def spBox : Sp := fun vs H Q _ => ∃ p ms, ∃ k : Nat, vs = [.ref p, .int k] ∧ H p = some (.lst (List.map V.int ms)) ∧ k < ms.length ∧ ms.length ≤ 2 ∧ ∀ r H', Same H H' → H r = none → Tin r 0 H' → Q (.ref r) H'
def spCells (K : PySem.W.Frag) : Sp := fun vs H Q _ => ∃ a ns, vs = [.ref a, .int 2] ∧ SqL K H a (List.map V.int ns) ∧ ns.length ≤ 63 ∧ ∀ r H' ms, Same H H' → H' r = some (.lst (List.map V.int ms)) → 0 < ms.length → ms.length ≤ 2 → Q (.ref r) H'
theorem ixl' {K : PySem.W.Frag} {H : Hp} {t : Addr} {xs : List V} {k : Int} {j : Nat} {x : V} {Q : VK} (h : H t = some (.lst xs)) (ek : k = (j : Int)) (e : xs[j]? = some x) (q : Q x H) : rIx K (.ref t) (.int k) H Q := by
  subst ek
  exact ixl h e q
theorem setl' {H : Hp} {t : Addr} {xs ys : List V} {k : Int} {j : Nat} {v : V} {Q : Hp → Prop} (h : H t = some (.lst xs)) (ek : k = (j : Int)) (hj : j < xs.length) (e : xs.set j v = ys) (q : Q (upd H t (.lst ys))) : rSetL (.ref t) (.int k) v H Q := by
  subst ek
  exact setl h hj e q
theorem bit01 (b : Bool) : -(2 ^ 64) < (if b = true then (1 : Int) else 0) ∧ (if b = true then (1 : Int) else 0) < 2 ^ 64 := by cases b <;> decide
theorem cut_ints (ns : List Int) (a b : Nat) : ∃ ms : List Int, cutV (ns.map V.int) (some (a : Int)) (some (b : Int)) = ms.map V.int ∧ (ms ≠ [] → a < ns.length) ∧ ms.length ≤ ns.length := by
  unfold cutV
  rw [HT.sIx_nat, HT.sIx_nat, List.length_map, ← List.map_drop, ← List.map_take]
  refine ⟨_, rfl, fun h => ?_, by rw [List.length_take, List.length_drop]; omega⟩
  by_cases e : a < ns.length
  · exact e
  · exfalso
    refine h ?_
    rw [List.drop_eq_nil_of_le (by omega), List.take_nil]
section
variable {P : Program} {w : World} {K : PySem.W.Frag} {mg : Str → Option Value} {base : Heap}
theorem d_box (B : Bi mg) (E : De K mg "_law_box" s_w_box P_w_box) : Dn P w K mg base 1 "_law_box" P_w_box spBox :=
  E.dn fun f fd F => F.ok sc_w_box (fun vs H Q E h => by obtain ⟨_, _, _, rfl, _⟩ := h; rfl) fun cdv A outer s H vs Q E' hr h => by
    obtain ⟨p, ms, k, rfl, hp, hk, h2, q⟩ := h
    refine ⟨_, (pss_cons (ps_set (i := 2) sc_w_box.nd rfl (Or.inl rfl) (pe_ifExp (pt_cmpR op_lt (pv 1) (pe_callB call_len_seq (by rfl) B.len (by decide +kernel) (pa_cons (pv 0) pa_nil)) (nomark _)) (pe_ix ix_seq (pv 0) (pv 1) (fun _ _ => rfl)) pe_int))
      (pss_one (ps_ret (pe_lst (pa_cons (pe_op op_mul (pe_callB call_abs (by rfl) B.abs (by decide +kernel) (pa_cons (pv 2) pa_nil)) (pe_callTy call_int1 (by rfl) B.int (by decide +kernel) (pa_cons (pe_cmpR op_ge (pe_callB call_abs (by rfl) B.abs (by decide +kernel) (pa_cons (pv 2) pa_nil)) (pe_op op_pow pe_int pe_int) (nomark _)) pa_nil))) (pa_cons (pe_op op_add (pe_op op_add (pe_op op_mod (pe_callTy call_int1 (by rfl) B.int (by decide +kernel) (pa_cons (pv 2) pa_nil)) pe_int) (pe_op op_mul pe_int (pv 1))) pe_int) (pa_cons pe_int pa_nil))))))), ?_⟩
    have e : (ms.map V.int)[k]? = some (.int (ms.getD k 0)) := by
      rw [List.getElem?_map, List.getD_eq_getElem?_getD, List.getElem?_eq_getElem hk]
      rfl
    generalize hc : ms.getD k 0 = c at e
    have lm : (ms.map V.int).length = ms.length := List.length_map ..
    refine ⟨_, rfl, _, rfl, rd_nil ⟨p, _, rfl, .inl (SqL.of hp), _, _, rfl, rfl, _, rfl, ite2 (fun _ => ?_) (fun z => absurd (by rw [lm]; exact decide_eq_true (by omega)) z)⟩⟩
    refine ⟨_, rfl, _, rfl, ixl hp e ?_⟩
    refine ⟨_, rfl, rd_nil ⟨c, rfl, ?_⟩⟩
    refine ⟨_, rfl, rd_nil ⟨c, rfl, ?_⟩⟩
    refine ⟨_, _, rfl, rfl, ⟨by decide, by decide, by decide⟩, _, _, rfl, rfl, rd_nil (.inr ⟨_, rfl, _, _, rfl, rfl, .inr ⟨?_, ?_⟩, ?_⟩)⟩
    · exact (bit01 _).1
    · exact (bit01 _).2
    refine ⟨_, rfl, rd_nil (.inl ⟨_, rfl, _, _, rfl, rfl, (by show (0 : Int) < 2305843009213693951; decide), _, rfl, _, _, rfl, rfl, .inl ⟨by decide, by decide⟩, _, _, rfl, rfl, _, _, rfl, rfl, ?_⟩)⟩
    refine ⟨fewL (by show 3 ≤ 1000; decide), fun r nr => q r _ (sn nr) nr ⟨_, _, _, upd_same, ?_, ?_, ?_, by decide, by decide⟩⟩
    · split <;> split <;> omega
    · have := Int.emod_nonneg c (show (2305843009213693951 : Int) ≠ 0 by decide)
      omega
    · have := Int.emod_lt_of_pos c (show (0 : Int) < 2305843009213693951 by decide)
      omega
theorem d_cells (B : Bi mg) (E : De K mg "_law_cells" s_w_cells P_w_cells) : Dn P w K mg base 1 "_law_cells" P_w_cells (spCells K) :=
  E.dn fun f fd F => F.ok sc_w_cells (fun vs H Q E h => by obtain ⟨_, _, rfl, _⟩ := h; rfl) fun cdv A outer s H vs Q E' hr h => by
    obtain ⟨a, ns, rfl, ha, h63, q⟩ := h
    refine ⟨_, (pss_cons (ps_set (i := 2) sc_w_cells.nd rfl (Or.inl rfl) (pe_orT (pe_callTy call_list_of (by rfl) B.list (by decide +kernel) (pa_cons (pe_slice sl_list (pv 0) po_none (po_some (pv 1))) pa_nil)) (pe_one (pe_lst (pa_cons pe_int pa_nil)))))
      (pss_cons (ps_for PassesOwn.never rfl (pi_enum (by rfl) B.enumerate (pa_cons (pe_slice sl_list (pv 0) (po_some (pv 1)) (po_some pe_int)) pa_nil)) (pg_tup rfl (pgs_cons (pg_name (i := 3) sc_w_cells.nd rfl (Or.inl rfl)) (pgs_cons (pg_name (i := 4) sc_w_cells.nd rfl (Or.inl rfl)) pgs_nil))) (pss_cons (ps_set (i := 5) sc_w_cells.nd rfl (Or.inl rfl) (pe_op op_mod (pe_callTy call_int1 (by rfl) B.int (by decide +kernel) (pa_cons (pv 3) pa_nil)) (pv 1)))
      (pss_one (ps_asg (pe_op op_add (pe_ix ix_seq (pv 2) (pv 5) (fun _ _ => rfl)) (pe_op op_mul (pv 4) (pe_op op_add (pv 3) pe_int))) (pg_sub (pv 2) (pv 5) set_list)))))
      (pss_one (ps_ret (pv 2))))), ?_⟩
    obtain ⟨ms, em, lm, ml⟩ := cut_ints ns 2 63
    have ml : ms.length ≤ 64 := by omega
    refine ⟨_, rfl, _, rfl, 2, rfl, a, _, rfl, ha, fun C nC => ?_⟩
    rw [show (2 : Int) = ((2 : Nat) : Int) from rfl, cut_to, ← List.map_take]
    refine rd_nil ⟨C, _, rfl, .inl (SqL.of upd_same), fun l nl => ?_⟩
    have s1 : Same H (upd H C (.lst ((ns.take 2).map V.int))) := sn nC
    generalize upd H C (.lst ((ns.take 2).map V.int)) = H1 at s1 nl
    have nlH : H l = none := s1.free nl
    refine ⟨!((ns.take 2).map V.int).isEmpty, .inl ⟨_, SqL.of upd_same, rfl⟩, ite2 (fun z => ?_) (fun z => ?_)⟩
    · have s2 : Same H (upd H1 l (.lst ((ns.take 2).map V.int))) := s1.trans (sn nl)
      have hR : upd H1 l (.lst ((ns.take 2).map V.int)) l = some (.lst ((ns.take 2).map V.int)) := upd_same
      have u0 : 0 < (ns.take 2).length := by
        cases h : ns.take 2 with
        | nil => rw [h] at z; cases z
        | cons x r => exact Nat.succ_pos _
      have u2 : (ns.take 2).length ≤ 2 := by rw [List.length_take]; omega
      have u3 : 2 < ns.length → (ns.take 2).length = 2 := fun h => by rw [List.length_take]; omega
      generalize upd H1 l (.lst ((ns.take 2).map V.int)) = H2 at s2 hR
      have nR : H l = none := nlH
      generalize ns.take 2 = us at hR u0 u2 u3
      refine ⟨_, rfl, _, rfl, 2, rfl, 63, rfl, a, _, rfl, s2.seq ha, fun C2 nC2 => ?_⟩
      rw [show (2 : Int) = ((2 : Nat) : Int) from rfl, show (63 : Int) = ((63 : Nat) : Int) from rfl, em]
      have neC : C2 ≠ l := (ne_of_none hR nC2).symm
      refine rd_nil ⟨C2, _, rfl, SqL.of upd_same, for_it (walk_enum (xs := ms.map V.int)) (fun i σ H' => (∃ z3 z4 z5, ∃ vs : List Int, σ = [some (.ref a), some (.int 2), some (.ref l), z3, z4, z5] ∧ H' l = some (.lst (vs.map V.int)) ∧ vs.length = us.length) ∧ Same H H' ∧ H' C2 = some (.lst (ms.map V.int))) ?_ ?_ ?_ ?_⟩
      · exact ⟨⟨none, none, none, us, rfl, by rw [upd_ne neC.symm]; exact hR, rfl⟩, s2.trans (sn nC2), upd_same⟩
      · exact fun i σ H' _ m => SqL.of m.2.2
      · rintro i x σ H' H3 hi ⟨⟨z3, z4, z5, vs, rfl, hv, lv⟩, sv, hC⟩ ⟨T, y, z, rfl, nT, rfl, ey, ez⟩
        cases ey
        rw [List.length_map] at hi
        have ez : (ms.map V.int)[i]? = some z := ez
        obtain ⟨c, rfl⟩ : ∃ c, z = .int c := by
          rw [List.getElem?_map] at ez
          cases e : ms[i]? with
          | none => rw [e] at ez; cases ez
          | some c => rw [e] at ez; exact ⟨c, by cases ez; rfl⟩
        have l2 : vs.length = 2 := by rw [lv]; exact u3 (lm (fun e => by rw [e] at hi; exact Nat.not_lt_zero _ hi))
        have ea : ((i : Int) % 2) = ((i % 2 : Nat) : Int) := by omega
        have hj : i % 2 < vs.length := by omega
        have hv3 : upd H' T (.tup [.int (i : Nat), .int c]) l = some (.lst (vs.map V.int)) := sn nT _ _ hv
        have eg : (vs.map V.int)[i % 2]? = some (.int (vs[i % 2])) := by rw [List.getElem?_map, List.getElem?_eq_getElem hj]; rfl
        refine ⟨T, _, rfl, SqT.of upd_same, rfl, _, _, rfl, _, _, rfl, rfl, ?_⟩
        refine ⟨_, rfl, rd_nil (.inl ⟨_, rfl, _, rfl, _, _, rfl, rfl, (by show (0 : Int) < 2; decide), ?_⟩)⟩
        refine ⟨_, rfl, _, rfl, ixl' hv3 ea eg ⟨_, rfl, _, rfl, _, _, rfl, rfl, _, _, rfl, rfl, .inr ⟨by have : i < 64 := (Nat.lt_of_lt_of_le hi ml); omega, by have : i < 64 := (Nat.lt_of_lt_of_le hi ml); omega⟩, _, _, rfl, rfl, _, rfl, _, rfl, setl' hv3 ea (by rw [List.length_map]; exact hj) List.map_set.symm ?_⟩⟩
        refine ⟨⟨_, _, _, _, rfl, upd_same, by rw [List.length_set]; exact lv⟩, fun b o hb => ?_, ?_⟩
        · rw [upd_ne (ne_of_none hb nR)]
          exact sn nT _ _ (sv _ _ hb)
        · rw [upd_ne neC]
          exact sn nT _ _ hC
      · rintro σ H' ⟨⟨z3, z4, z5, vs, rfl, hv, lv⟩, sv, hC⟩
        exact ⟨_, rfl, q _ _ vs sv hv (by omega) (by omega)⟩
    · have en : ns = [] := by
        cases ns with
        | nil => rfl
        | cons x r => exact absurd rfl z
      refine ⟨fewL (by show 1 ≤ 1000; decide), fun R nR => ?_⟩
      have s2 : Same H (upd (upd H1 l (.lst ((ns.take 2).map V.int))) R (.lst [.int 0])) := (s1.trans (sn nl)).trans (sn nR)
      have nR : H R = none := (s1.trans (sn nl)).free nR
      obtain ⟨us, eu, u0, u2, u3⟩ : ∃ us : List Int, us = [0] ∧ 0 < us.length ∧ us.length ≤ 2 ∧ (2 < ns.length → us.length = 2) := ⟨[0], rfl, by decide, by decide, fun h => by rw [en] at h; exact absurd h (by decide)⟩
      have hR : upd (upd H1 l (.lst ((ns.take 2).map V.int))) R (.lst [.int 0]) R = some (.lst (us.map V.int)) := by rw [eu]; exact upd_same
      generalize upd (upd H1 l (.lst ((ns.take 2).map V.int))) R (.lst [.int 0]) = H2 at s2 hR
      refine ⟨_, rfl, _, rfl, 2, rfl, 63, rfl, a, _, rfl, s2.seq ha, fun C2 nC2 => ?_⟩
      rw [show (2 : Int) = ((2 : Nat) : Int) from rfl, show (63 : Int) = ((63 : Nat) : Int) from rfl, em]
      have neC : C2 ≠ R := (ne_of_none hR nC2).symm
      refine rd_nil ⟨C2, _, rfl, SqL.of upd_same, for_it (walk_enum (xs := ms.map V.int)) (fun i σ H' => (∃ z3 z4 z5, ∃ vs : List Int, σ = [some (.ref a), some (.int 2), some (.ref R), z3, z4, z5] ∧ H' R = some (.lst (vs.map V.int)) ∧ vs.length = us.length) ∧ Same H H' ∧ H' C2 = some (.lst (ms.map V.int))) ?_ ?_ ?_ ?_⟩
      · exact ⟨⟨none, none, none, us, rfl, by rw [upd_ne neC.symm]; exact hR, rfl⟩, s2.trans (sn nC2), upd_same⟩
      · exact fun i σ H' _ m => SqL.of m.2.2
      · rintro i x σ H' H3 hi ⟨⟨z3, z4, z5, vs, rfl, hv, lv⟩, sv, hC⟩ ⟨T, y, z, rfl, nT, rfl, ey, ez⟩
        cases ey
        rw [List.length_map] at hi
        have ez : (ms.map V.int)[i]? = some z := ez
        obtain ⟨c, rfl⟩ : ∃ c, z = .int c := by
          rw [List.getElem?_map] at ez
          cases e : ms[i]? with
          | none => rw [e] at ez; cases ez
          | some c => rw [e] at ez; exact ⟨c, by cases ez; rfl⟩
        have l2 : vs.length = 2 := by rw [lv]; exact u3 (lm (fun e => by rw [e] at hi; exact Nat.not_lt_zero _ hi))
        have ea : ((i : Int) % 2) = ((i % 2 : Nat) : Int) := by omega
        have hj : i % 2 < vs.length := by omega
        have hv3 : upd H' T (.tup [.int (i : Nat), .int c]) R = some (.lst (vs.map V.int)) := sn nT _ _ hv
        have eg : (vs.map V.int)[i % 2]? = some (.int (vs[i % 2])) := by rw [List.getElem?_map, List.getElem?_eq_getElem hj]; rfl
        refine ⟨T, _, rfl, SqT.of upd_same, rfl, _, _, rfl, _, _, rfl, rfl, ?_⟩
        refine ⟨_, rfl, rd_nil (.inl ⟨_, rfl, _, rfl, _, _, rfl, rfl, (by show (0 : Int) < 2; decide), ?_⟩)⟩
        refine ⟨_, rfl, _, rfl, ixl' hv3 ea eg ⟨_, rfl, _, rfl, _, _, rfl, rfl, _, _, rfl, rfl, .inr ⟨by have : i < 64 := (Nat.lt_of_lt_of_le hi ml); omega, by have : i < 64 := (Nat.lt_of_lt_of_le hi ml); omega⟩, _, _, rfl, rfl, _, rfl, _, rfl, setl' hv3 ea (by rw [List.length_map]; exact hj) List.map_set.symm ?_⟩⟩
        refine ⟨⟨_, _, _, _, rfl, upd_same, by rw [List.length_set]; exact lv⟩, fun b o hb => ?_, ?_⟩
        · rw [upd_ne (ne_of_none hb nR)]
          exact sn nT _ _ (sv _ _ hb)
        · rw [upd_ne neC]
          exact sn nT _ _ hC
      · rintro σ H' ⟨⟨z3, z4, z5, vs, rfl, hv, lv⟩, sv, hC⟩
        exact ⟨_, rfl, q _ _ vs sv hv (by omega) (by omega)⟩
end

/-! ### expressions that make data, the heap but grown -/
def EvE (te : TE) (σ : L2.St) (H0 : Hp) (d : PyData) : Prop := ∀ H Q, Same H0 H → (∀ r H', Same H H' → DR H' r d → Q r H') → te σ H Q
def EvA (ta : TA) (σ : L2.St) (H0 : Hp) (ds : List PyData) : Prop := ∀ H F, Same H0 H → (∀ vs H', Same H H' → DRs H' vs ds → F vs H') → ta σ H F
def IsVD (d : PyData) (w : Ver) : Prop := d = dV w ∨ d = dL w
theorem of_dL {H : Hp} {v : V} {w : Ver} (h : DR H v (dL w)) : VerAt H v w := by
  unfold dL at h
  cases h with
  | lst h1 h2 => exact ⟨_, rfl, .inr (by rw [h1, of_drs_ints _ h2])⟩
theorem DR.ver {H : Hp} {v : V} {d : PyData} {w : Ver} (h : DR H v d) (e : IsVD d w) : VerAt H v w := by
  rcases e with rfl | rfl
  · exact (tupAt_of h).ver
  · exact of_dL h
section
variable {te tb : TE} {ta : TA} {σ : L2.St} {H0 : Hp} {d e : PyData} {ds es : List PyData} {v : V} {i j : Int} {x y : Ver}
theorem EvA.nil : EvA tNil σ H0 [] := fun H F _ q => q [] H (Same.refl _) .nil
theorem EvA.cons (h : EvE te σ H0 d) (t : EvA ta σ H0 ds) : EvA (tCons te ta) σ H0 (d :: ds) := fun H F s q => h H _ s fun r H1 s1 d1 => t H1 _ (s.trans s1) fun vs H2 s2 d2 => q _ _ (s1.trans s2) (.cons (d1.mono s2) d2)
theorem EvE.var {n : Nat} (h : DR H0 v d) (hv : σ[n]? = some (some v) := by rfl) : EvE (tVar n) σ H0 d := fun H Q s q => ⟨v, hv, q v H (Same.refl _) (h.mono s)⟩
theorem EvE.int : EvE (tC (.int i)) σ H0 (.int i) := fun H Q s q => q _ _ (Same.refl _) (.int i)
theorem EvE.non : EvE (tC .non) σ H0 .none := fun H Q s q => q _ _ (Same.refl _) .non
theorem EvE.bl {b : Bool} : EvE (tC (.bl b)) σ H0 (.bool b) := fun H Q s q => q _ _ (Same.refl _) (.bl b)
theorem EvE.lst (h : EvA ta σ H0 ds) (n : Nat.ble ds.length 1000 = true := by rfl) : EvE (tLst ta) σ H0 (.list ds) := fun H Q s q =>
  h H _ s fun vs H1 s1 d1 => ⟨fewL (by rw [d1.len]; exact Nat.le_of_ble_eq_true n), fun p hp => q _ _ (s1.trans (sn hp)) (.lst upd_same (d1.mono (sn hp)))⟩
theorem EvE.tup (h : EvA ta σ H0 ds) (n : Nat.ble ds.length 1000 = true := by rfl) : EvE (tTup ta) σ H0 (.tuple ds) := fun H Q s q =>
  h H _ s fun vs H1 s1 d1 => ⟨fewL (by rw [d1.len]; exact Nat.le_of_ble_eq_true n), fun p hp => q _ _ (s1.trans (sn hp)) (.tup upd_same (d1.mono (sn hp)))⟩
theorem EvE.neg (h : EvE te σ H0 (.int i)) : EvE (tUn (rU fun i => .int (-i)) te) σ H0 (.int (-i)) := fun H Q s q =>
  h H _ s fun r H1 s1 d1 => by cases d1; exact ⟨i, rfl, q _ _ s1 (.int _)⟩
theorem EvE.pow (h : EvE te σ H0 (.int i)) (k : EvE tb σ H0 (.int j)) (c : CPow i j) : EvE (tOp (rI CPow fun i j => .int (i ^ j.toNat)) te tb) σ H0 (.int (i ^ j.toNat)) := fun H Q s q =>
  h H _ s fun r H1 s1 d1 => k H1 _ (s.trans s1) fun r2 H2 s2 d2 => by cases d1; cases d2; exact ⟨i, j, rfl, rfl, c, q _ _ (s1.trans s2) (.int _)⟩
theorem EvE.sub (h : EvE te σ H0 (.int i)) (k : EvE tb σ H0 (.int j)) : EvE (tOp (rI0 fun i j => .int (i - j)) te tb) σ H0 (.int (i - j)) := fun H Q s q =>
  h H _ s fun r H1 s1 d1 => k H1 _ (s.trans s1) fun r2 H2 s2 d2 => by cases d1; cases d2; exact ⟨i, j, rfl, rfl, q _ _ (s1.trans s2) (.int _)⟩
theorem EvE.cat (h : EvE te σ H0 (.list ds)) (k : EvE tb σ H0 (.list es)) (n : Nat.ble (ds.length + es.length) 1000 = true := by rfl) : EvE (tOp rCat te tb) σ H0 (.list (ds ++ es)) := fun H Q s q =>
  h H _ s fun r H1 s1 d1 => k H1 _ (s.trans s1) fun r2 H2 s2 d2 => by
    have d1 := d1.mono s2
    cases d1 with
    | lst a1 b1 =>
      cases d2 with
      | lst a2 b2 =>
        refine catl a1 a2 (by rw [b1.len, b2.len]; exact Nat.le_of_ble_eq_true n) fun p hp => q _ _ ((s1.trans s2).trans (sn hp)) (.lst upd_same ?_)
        exact DRs.app (b1.mono (sn hp)) (b2.mono (sn hp))
theorem EvE.p1 {f : Ver → PyData} (h : EvE te σ H0 d) (ev : IsVD d x) (ok : x.Ok) : EvE (tCall (p1 f) [] E0 (tCons te tNil)) σ H0 (f x) := fun H Q s q =>
  h H _ s fun r H1 s1 d1 => ⟨r, x, rfl, d1.ver ev, ok, fun r2 H2 s2 d2 => q _ _ (s1.trans s2) d2⟩
theorem EvE.p2 {f : Ver → Ver → PyData} (h : EvE te σ H0 d) (k : EvE tb σ H0 e) (ev : IsVD d x) (ew : IsVD e y) (ok : x.Ok) (ok2 : y.Ok) : EvE (tCall (p2 f) [] E0 (tCons te (tCons tb tNil))) σ H0 (f x y) := fun H Q s q =>
  h H _ s fun r H1 s1 d1 => k H1 _ (s.trans s1) fun r2 H2 s2 d2 => ⟨r, r2, x, y, rfl, (d1.mono s2).ver ev, d2.ver ew, ok, ok2, fun r3 H3 s3 d3 => q _ _ ((s1.trans s2).trans s3) d3⟩
theorem EvE.p1i {f : Ver → Int → PyData} (h : EvE te σ H0 d) (k : EvE tb σ H0 (.int i)) (ev : IsVD d x) (ok : x.Ok) : EvE (tCall (p1i f) [] E0 (tCons te (tCons tb tNil))) σ H0 (f x i) := fun H Q s q =>
  h H _ s fun r H1 s1 d1 => k H1 _ (s.trans s1) fun r2 H2 s2 d2 => by cases d2; exact ⟨r, x, i, rfl, (d1.mono s2).ver ev, ok, fun r3 H3 s3 d3 => q _ _ ((s1.trans s2).trans s3) d3⟩
theorem EvE.rel {p : Nat} (h : EvE te σ H0 d) (k : EvE tb σ H0 (.int p)) (ev : IsVD d x) (hp : p < 3) : EvE (tCall spRel [] E0 (tCons te (tCons tb tNil))) σ H0 (dV (Ver.rel x p)) := fun H Q s q =>
  h H _ s fun r H1 s1 d1 => k H1 _ (s.trans s1) fun r2 H2 s2 d2 => by cases d2; exact ⟨r, x, p, rfl, (d1.mono s2).ver ev, hp, fun r3 H3 s3 d3 => q _ _ ((s1.trans s2).trans s3) d3⟩
theorem EvE.bump {p : Nat} (h : EvE te σ H0 (dV x)) (k : EvE tb σ H0 (.int p)) (hp : p < 3) : EvE (tCall spBump [] E0 (tCons te (tCons tb tNil))) σ H0 (dV (Ver.rel x p)) := fun H Q s q =>
  h H _ s fun r H1 s1 d1 => k H1 _ (s.trans s1) fun r2 H2 s2 d2 => by cases d2; exact ⟨r, x, p, rfl, tupAt_of (d1.mono s2), hp, fun r3 H3 s3 d3 => q _ _ ((s1.trans s2).trans s3) d3⟩
theorem EvE.t1 {f : Ver → PyData} (h : EvE te σ H0 (dV x)) (ok : x.Ok) : EvE (tCall (t1 f) [] E0 (tCons te tNil)) σ H0 (f x) := fun H Q s q =>
  h H _ s fun r H1 s1 d1 => ⟨r, x, rfl, tupAt_of d1, ok, fun r2 H2 s2 d2 => q _ _ (s1.trans s2) d2⟩
theorem EvE.walk (h : EvE te σ H0 (dV x)) (k : EvE tb σ H0 (.int i)) (ok : x.Ok) (l1 : -1000 ≤ i) (l2 : i ≤ 1000) : EvE (tCall spWalk [] E0 (tCons te (tCons tb tNil))) σ H0 (dO (x.on i)) := fun H Q s q =>
  h H _ s fun r H1 s1 d1 => k H1 _ (s.trans s1) fun r2 H2 s2 d2 => by cases d2; exact ⟨r, x, i, rfl, tupAt_of (d1.mono s2), ok, l1, l2, fun r3 H3 s3 d3 => q _ _ ((s1.trans s2).trans s3) d3⟩
theorem EvE.btw (h : EvE te σ H0 (dV x)) (k : EvE tb σ H0 (dV y)) (ok : x.Ok) (ok2 : y.Ok) (n : Ver.Near x y) : EvE (tCall spBtw [] E0 (tCons te (tCons tb tNil))) σ H0 (dI (Ver.btw x y)) := fun H Q s q =>
  h H _ s fun r H1 s1 d1 => k H1 _ (s.trans s1) fun r2 H2 s2 d2 => ⟨r, r2, x, y, rfl, tupAt_of (d1.mono s2), tupAt_of d2, ok, ok2, n, fun r3 H3 s3 d3 => q _ _ ((s1.trans s2).trans s3) d3⟩
/-- data that tell of a lot -/
structure IsLD (d : PyData) (lot : List Ver) : Prop where
  ok : okT d = true
  dep : d.depth < 3
  tup : tupD d = .tuple (lot.map dV)
theorem EvE.best {lot line : List Ver} (h : EvE te σ H0 d) (l : IsLD d lot) (ok : LotOk lot) (L : Ver.IsLine lot line) : EvE (tCall spBest [] E0 (tCons te tNil)) σ H0 (.tuple (line.map dV)) := fun H Q s q =>
  h H _ s fun r H1 s1 d1 => ⟨r, lot, rfl, ⟨d, d1, l.ok, l.dep, l.tup⟩, ok, fun r2 H2 line2 s2 L2 d2 => q _ _ (s1.trans s2) (by rw [L.unique L2]; exact d2)⟩
theorem EvE.newest {lot line : List Ver} {b : Bool} (h : EvE te σ H0 d) (k : EvE tb σ H0 (.bool b)) (l : IsLD d lot) (ok : LotOk lot) (L : Ver.IsLine lot line) :
    EvE (tCall spNewest [] E0 (tCons te (tCons tb tNil))) σ H0 (dO (if b then line.head? else (line.filter fun u => !decide (u.d < 0)).head?)) := fun H Q s q =>
  h H _ s fun r H1 s1 d1 => k H1 _ (s.trans s1) fun r2 H2 s2 d2 => by cases d2; exact ⟨r, lot, b, rfl, ⟨d, d1.mono s2, l.ok, l.dep, l.tup⟩, ok, fun r3 H3 line2 s3 L2 d3 => q _ _ ((s1.trans s2).trans s3) (by rw [L.unique L2]; exact d3)⟩
/-! by keywords -/
def gSame {α : Type} (xs : List α) : List α := xs
def gBack {α : Type} (xs : List α) : List α := xs.reverse
theorem EvE.kp1 {f : Ver → PyData} (h : EvE te σ H0 d) (ev : IsVD d x) (ok : x.Ok) : EvE (tCallW 1 gSame (Nf.p1 f) (tCons te tNil)) σ H0 (f x) := fun H Q s q =>
  h H _ s fun r H1 s1 d1 => ⟨rfl, r, x, rfl, d1.ver ev, ok, fun r2 H2 s2 d2 => q _ _ (s1.trans s2) d2⟩
theorem EvE.kp1i {f : Ver → Int → PyData} (k : EvE tb σ H0 (.int i)) (h : EvE te σ H0 d) (ev : IsVD d x) (ok : x.Ok) : EvE (tCallW 2 gBack (Nf.p1i f) (tCons tb (tCons te tNil))) σ H0 (f x i) := fun H Q s q =>
  k H _ s fun r H1 s1 d1 => h H1 _ (s.trans s1) fun r2 H2 s2 d2 => by cases d1; exact ⟨rfl, r2, x, i, rfl, d2.ver ev, ok, fun r3 H3 s3 d3 => q _ _ ((s1.trans s2).trans s3) d3⟩
theorem EvE.knewest {lot line : List Ver} {b : Bool} (k : EvE tb σ H0 (.bool b)) (h : EvE te σ H0 d) (l : IsLD d lot) (ok : LotOk lot) (L : Ver.IsLine lot line) :
    EvE (tCallW 2 gBack spNewest (tCons tb (tCons te tNil))) σ H0 (dO (if b then line.head? else (line.filter fun u => !decide (u.d < 0)).head?)) := fun H Q s q =>
  k H _ s fun r H1 s1 d1 => h H1 _ (s.trans s1) fun r2 H2 s2 d2 => by cases d1; exact ⟨rfl, r2, lot, b, rfl, ⟨d, d2, l.ok, l.dep, l.tup⟩, ok, fun r3 H3 line2 s3 L2 d3 => q _ _ ((s1.trans s2).trans s3) (by rw [L.unique L2]; exact d3)⟩
/-- a comprehension over a tuple, to data without a list in it -/
theorem EvE.lc {K : PySem.W.Frag} {n : Nat} (h : EvE te σ H0 (.tuple ds)) (hl : es.length = ds.length) (hn : noLs es = true) (hw : ∀ v, wipe ((wipe σ [n]).set n (some v)) [n] = wipe σ [n]) (l : es.length ≤ 1000)
    (b : ∀ (k : Nat) (d e : PyData) (v : V) (H1 : Hp), Same H0 H1 → ds[k]? = some d → es[k]? = some e → DR H1 v d → EvE tb ((wipe σ [n]).set n (some v)) H1 e) :
    EvE (tLc (iTup K te) (gName n) tYes tb [n]) σ H0 (.list es) := fun H Q s q =>
  h H _ s fun r H1 s1 d1 => by
    cases d1 with
    | @tup a xs _ h1 h2 =>
      refine ⟨a, rfl, ⟨xs, SqT.of h1⟩, fun D nD => lc_tup (xs := xs) (Made H1 D es) (Made.start nD) (fun i H' _ m => SqT.of (m.1 _ _ h1)) (fun k v H' hv m => ⟨hw v, rd_yes (iteT ?_)⟩) fun H' m => ?_⟩
      · obtain ⟨dd, hd, dv⟩ := h2.get hv
        have hk : k < es.length := by rw [hl]; exact (List.getElem?_eq_some_iff.mp hd).1
        have he := List.getElem?_eq_getElem hk
        exact b k dd es[k] v H' ((s.trans s1).trans m.1) hd he (dv.mono m.1) H' _ (Same.refl _) fun r2 H2 s2 d2 => m.turn hn he l s2 d2 hk
      · obtain ⟨s2, acc, ha, da⟩ := m.all (by rw [h2.len, hl]; exact Nat.le_refl _)
        exact q _ _ (s1.trans s2) (.lst ha da)
/-- a name set to what makes data -/
theorem asg_ev {n : Nat} {u : TS} {D : Ends} {H : Hp} (h : EvE te σ H d) (q : ∀ r H', Same H H' → DR H' r d → u D (σ.set n (some r)) H') : tSeq (tAsg te (gName n)) u D σ H :=
  h H _ (Same.refl _) q
end
theorem restate_st {σ σ2 : L2.St} {u : TS} {D : Ends} {H : Hp} (e : σ = σ2) (h : u D σ2 H) : u D σ H := by
  subst e
  exact h
theorem restate_g {n : Nat} {v : V} {σ σ2 : L2.St} {H : Hp} {Q : L2.St → Hp → Prop} (e : σ.set n (some v) = σ2) (h : Q σ2 H) : gName n v σ H Q := by
  subst e
  exact h
theorem ret_same {te tb : TE} {σ : L2.St} {H : Hp} {ds es : List PyData} {n : Nat} {D : Ends} (h : EvE te σ H (.list ds)) (k : EvE tb σ H (.list es)) (e : es = ds) (ok : okS (.list ds) = true) (dep : (PyData.list ds).depth < n ∧ n ≤ 60) (q : ∀ H', Same H H' → D.rt (.bl true) H') :
    tRet (tCall (spSame n) [] E0 (tCons te (tCons tb tNil))) D σ H := by
  subst e
  exact h H _ (Same.refl _) fun r H1 s1 d1 => k H1 _ s1 fun r2 H2 s2 d2 => ⟨r, r2, _, rfl, d1.mono s2, d2, ok, dep.1, dep.2, fun H' s3 => q _ ((s1.trans s2).trans s3)⟩

abbrev vv : Ver := ⟨1, 2, 3, 0⟩
abbrev ww : Ver := ⟨1, 2, 4, -2⟩
theorem ok_of {v : Ver} (h : Ver.isV v = true) : v.Ok := Ver.isV_iff.mp h
theorem lotOk_of {lot : List Ver} (h : lot.length < 64 ∧ ∀ v ∈ lot, Ver.isV v = true ∧ v.a < 500 ∧ v.b < 500 ∧ v.c < 500) : LotOk lot :=
  ⟨h.1, fun v m => let ⟨a, b, c, d⟩ := h.2 v m; ⟨ok_of a, b, c, d⟩⟩
theorem isLine_of {lot line : List Ver} (h : line.Pairwise fun x y => y.key < x.key) (h1 : ∀ v ∈ line, v ∈ lot) (h2 : ∀ v ∈ lot, v ∈ line) : Ver.IsLine lot line := ⟨h, fun v => ⟨h1 v, h2 v⟩⟩
theorem asg_g {te : TE} {σ : L2.St} {H : Hp} {d : PyData} {g : TG} {u : TS} {D : Ends} (h : EvE te σ H d) (q : ∀ r H', Same H H' → DR H' r d → g r σ H' fun σ2 H2 => u D σ2 H2) : tSeq (tAsg te g) u D σ H :=
  h H _ (Same.refl _) q
theorem two_of {H : Hp} {r : V} {d e : PyData} (h : DR H r (.tuple [d, e])) : ∃ a v u, r = .ref a ∧ H a = some (.tup [v, u]) ∧ DR H v d ∧ DR H u e := by
  cases h with
  | tup h1 h2 =>
    cases h2 with
    | cons h3 h4 =>
      cases h4 with
      | cons h5 h6 =>
        cases h6
        exact ⟨_, _, _, rfl, h1, h3, h5⟩
theorem rels {σ : L2.St} {H : Hp} {v : V} (hv : DR H v (dV ww)) (h1 : ∀ u, ((wipe σ [4]).set 4 (some u))[1]? = some (some v)) (h4 : ∀ u, ((wipe σ [4]).set 4 (some u))[4]? = some (some u)) : ∀ (k : Nat) (d e : PyData) (u : V) (H1 : Hp), Same H H1 → ([.int 0, .int 1, .int 2] : List PyData)[k]? = some d → ([dV (Ver.rel ww 0), dV (Ver.rel ww 1), dV (Ver.rel ww 2)] : List PyData)[k]? = some e → DR H1 u d →
    EvE (tCall spRel [] E0 (tCons (tVar 1) (tCons (tVar 4) tNil))) ((wipe σ [4]).set 4 (some u)) H1 e
  | 0, _, _, u, H1, s, hd, he, du => by cases hd; cases he; exact EvE.rel (p := 0) (x := ww) (EvE.var (hv.mono s) (h1 u)) (EvE.var du (h4 u)) (.inl rfl) (by decide)
  | 1, _, _, u, H1, s, hd, he, du => by cases hd; cases he; exact EvE.rel (p := 1) (x := ww) (EvE.var (hv.mono s) (h1 u)) (EvE.var du (h4 u)) (.inl rfl) (by decide)
  | 2, _, _, u, H1, s, hd, he, du => by cases hd; cases he; exact EvE.rel (p := 2) (x := ww) (EvE.var (hv.mono s) (h1 u)) (EvE.var du (h4 u)) (.inl rfl) (by decide)
  | k + 3, _, _, u, H1, s, hd, he, du => by cases hd
section
variable {P : Program} {w : World} {K : PySem.W.Frag} {mg : Str → Option Value} {base : Heap}
def spTrue : Sp := fun vs H Q _ => vs = [] ∧ ∀ H', Same H H' → Q (.bl true) H'
theorem d_by_hand (B : Bi mg) (E : De K mg "_law_by_hand_right" s_w_by_hand_right P_w_by_hand_right)
    (D_next_version : Dn P w K mg base 3 "next_version" P_next_version (p1 fun x => dV x.next))
    (D_version_ahead : Dn P w K mg base 3 "version_ahead" P_version_ahead (p1 fun x => dO x.ahead))
    (D_steps_on : Dn P w K mg base 2 "steps_on" P_steps_on (p1i fun x m => dO (x.on m)))
    (D_steps_between : Dn P w K mg base 2 "steps_between" P_steps_between (p2 fun x y => dI (Ver.btw x y)))
    (D_compared : Dn P w K mg base 2 "compared" P_compared (p2 fun x y => .int (Ver.comp x y)))
    (D_first_unlike : Dn P w K mg base 1 "first_unlike" P_first_unlike (p2 fun x y => dN (Ver.unlike x y)))
    (D_next_release : Dn P w K mg base 1 "next_release" P_next_release spRel)
    (D_from_best : Dn P w K mg base 4 "from_best" P_from_best spBest)
    (D_newest_of : Dn P w K mg base 5 "newest_of" P_newest_of spNewest)
    (D_w_same : Dn P w K mg base 4 "_law_same" P_w_same (spSame 4))
    (K_next_version : Dk P w K mg base 3 "next_version" P_next_version ["version"] gSame (p1 fun x => dV x.next))
    (K_steps_on : Dk P w K mg base 2 "steps_on" P_steps_on ["many", "version"] gBack (p1i fun x m => dO (x.on m)))
    (K_newest_of : Dk P w K mg base 5 "newest_of" P_newest_of ["early", "versions"] gBack spNewest) :
    Dn P w K mg base 6 "_law_by_hand_right" P_w_by_hand_right spTrue :=
  E.dn fun f fd F => F.ok sc_w_by_hand_right (fun vs H Q E h => by obtain ⟨rfl, _⟩ := h; rfl) fun cdv A outer s H vs Q E hr h => by
    obtain ⟨rfl, q⟩ := h
    refine ⟨_, (pss_cons (ps_asg (pe_tup (pa_cons (pe_tup (pa_cons pe_int (pa_cons pe_int (pa_cons pe_int (pa_cons pe_int pa_nil))))) (pa_cons (pe_tup (pa_cons pe_int (pa_cons pe_int (pa_cons pe_int (pa_cons (pe_un un_neg pe_int) pa_nil))))) pa_nil))) (pg_tup rfl (pgs_cons (pg_name (i := 0) sc_w_by_hand_right.nd rfl (Or.inl rfl)) (pgs_cons (pg_name (i := 1) sc_w_by_hand_right.nd rfl (Or.inr rfl)) pgs_nil))))
      (pss_cons (ps_set (i := 2) sc_w_by_hand_right.nd rfl (Or.inl rfl) (pe_lst (pa_cons (pe_dn D_next_version (hr.mono (by decide)) rfl (pa_cons (pv 0) pa_nil)) (pa_cons (pe_dn D_next_version (hr.mono (by decide)) rfl (pa_cons (pv 1) pa_nil)) (pa_cons (pe_dn D_version_ahead (hr.mono (by decide)) rfl (pa_cons (pe_tup (pa_cons pe_int (pa_cons pe_int (pa_cons pe_int (pa_cons (pe_un un_neg pe_int) pa_nil))))) pa_nil)) (pa_cons (pe_dn D_version_ahead (hr.mono (by decide)) rfl (pa_cons (pe_tup (pa_cons pe_int (pa_cons pe_int (pa_cons pe_int (pa_cons (pe_un un_neg pe_int) pa_nil))))) pa_nil)) (pa_cons (pe_dn D_version_ahead (hr.mono (by decide)) rfl (pa_cons (pe_dn D_next_version (hr.mono (by decide)) rfl (pa_cons (pv 0) pa_nil)) pa_nil)) pa_nil)))))))
      (pss_cons (ps_set (i := 3) sc_w_by_hand_right.nd rfl (Or.inl rfl) (pe_lst (pa_cons (pe_tup (pa_cons pe_int (pa_cons pe_int (pa_cons pe_int (pa_cons (pe_un un_neg pe_int) pa_nil))))) (pa_cons (pe_tup (pa_cons pe_int (pa_cons pe_int (pa_cons pe_int (pa_cons (pe_un un_neg pe_int) pa_nil))))) (pa_cons (pv 0) (pa_cons pe_non (pa_cons (pv 0) pa_nil)))))))
      (pss_cons (ps_set (i := 2) sc_w_by_hand_right.nd rfl (Or.inl rfl) (pe_op op_cat (pv 2) (pe_lst (pa_cons (pe_dn D_steps_on (hr.mono (by decide)) rfl (pa_cons (pv 0) (pa_cons pe_int pa_nil))) (pa_cons (pe_dn D_steps_on (hr.mono (by decide)) rfl (pa_cons (pv 0) (pa_cons (pe_un un_neg pe_int) pa_nil))) (pa_cons (pe_dn D_steps_on (hr.mono (by decide)) rfl (pa_cons (pv 1) (pa_cons pe_int pa_nil))) (pa_cons (pe_dn D_steps_on (hr.mono (by decide)) rfl (pa_cons (pv 0) (pa_cons (pe_un un_neg pe_int) pa_nil))) (pa_cons (pe_dn D_steps_on (hr.mono (by decide)) rfl (pa_cons (pe_tup (pa_cons pe_int (pa_cons pe_int (pa_cons pe_int (pa_cons (pe_un un_neg pe_int) pa_nil))))) (pa_cons (pe_op op_pow pe_int pe_int) pa_nil))) pa_nil))))))))
      (pss_cons (ps_set (i := 3) sc_w_by_hand_right.nd rfl (Or.inl rfl) (pe_op op_cat (pv 3) (pe_lst (pa_cons (pe_tup (pa_cons pe_int (pa_cons pe_int (pa_cons pe_int (pa_cons pe_int pa_nil))))) (pa_cons pe_non (pa_cons (pv 1) (pa_cons (pe_tup (pa_cons pe_int (pa_cons pe_int (pa_cons pe_int (pa_cons (pe_un un_neg pe_int) pa_nil))))) (pa_cons (pe_tup (pa_cons pe_int (pa_cons pe_int (pa_cons (pe_op op_pow pe_int pe_int) (pa_cons (pe_un un_neg pe_int) pa_nil))))) pa_nil))))))))
      (pss_cons (ps_set (i := 2) sc_w_by_hand_right.nd rfl (Or.inl rfl) (pe_op op_cat (pv 2) (pe_lst (pa_cons (pe_dn D_steps_between (hr.mono (by decide)) rfl (pa_cons (pv 0) (pa_cons (pv 1) pa_nil))) (pa_cons (pe_dn D_steps_between (hr.mono (by decide)) rfl (pa_cons (pv 1) (pa_cons (pv 0) pa_nil))) (pa_cons (pe_dn D_steps_between (hr.mono (by decide)) rfl (pa_cons (pv 0) (pa_cons (pe_tup (pa_cons pe_int (pa_cons pe_int (pa_cons pe_int (pa_cons pe_int pa_nil))))) pa_nil))) (pa_cons (pe_dn D_steps_between (hr.mono (by decide)) rfl (pa_cons (pv 0) (pa_cons (pe_tup (pa_cons pe_int (pa_cons pe_int (pa_cons pe_int (pa_cons pe_int pa_nil))))) pa_nil))) (pa_cons (pe_dn D_steps_between (hr.mono (by decide)) rfl (pa_cons (pv 0) (pa_cons (pv 0) pa_nil))) pa_nil))))))))
      (pss_cons (ps_set (i := 3) sc_w_by_hand_right.nd rfl (Or.inl rfl) (pe_op op_cat (pv 3) (pe_lst (pa_cons pe_int (pa_cons (pe_un un_neg pe_int) (pa_cons pe_non (pa_cons pe_non (pa_cons pe_int pa_nil))))))))
      (pss_cons (ps_set (i := 2) sc_w_by_hand_right.nd rfl (Or.inl rfl) (pe_op op_cat (pv 2) (pe_lst (pa_cons (pe_dn D_steps_between (hr.mono (by decide)) rfl (pa_cons (pe_tup (pa_cons pe_int (pa_cons pe_int (pa_cons pe_int (pa_cons (pe_un un_neg pe_int) pa_nil))))) (pa_cons (pe_tup (pa_cons pe_int (pa_cons pe_int (pa_cons pe_int (pa_cons pe_int pa_nil))))) pa_nil))) (pa_cons (pe_dn D_steps_between (hr.mono (by decide)) rfl (pa_cons (pe_tup (pa_cons pe_int (pa_cons pe_int (pa_cons pe_int (pa_cons pe_int pa_nil))))) (pa_cons (pe_tup (pa_cons pe_int (pa_cons pe_int (pa_cons pe_int (pa_cons (pe_un un_neg pe_int) pa_nil))))) pa_nil))) (pa_cons (pe_dn D_steps_on (hr.mono (by decide)) rfl (pa_cons (pe_tup (pa_cons pe_int (pa_cons pe_int (pa_cons pe_int (pa_cons pe_int pa_nil))))) (pa_cons (pe_un un_neg pe_int) pa_nil))) pa_nil))))))
      (pss_cons (ps_set (i := 2) sc_w_by_hand_right.nd rfl (Or.inl rfl) (pe_op op_cat (pv 2) (pe_lst (pa_cons (pe_dn D_steps_on (hr.mono (by decide)) rfl (pa_cons (pe_tup (pa_cons pe_int (pa_cons pe_int (pa_cons pe_int (pa_cons pe_int pa_nil))))) (pa_cons (pe_un un_neg pe_int) pa_nil))) (pa_cons (pe_dn D_steps_on (hr.mono (by decide)) rfl (pa_cons (pe_tup (pa_cons pe_int (pa_cons pe_int (pa_cons pe_int (pa_cons pe_int pa_nil))))) (pa_cons (pe_un un_neg (pe_op op_pow pe_int pe_int)) pa_nil))) (pa_cons (pe_dn D_steps_on (hr.mono (by decide)) rfl (pa_cons (pe_tup (pa_cons pe_int (pa_cons pe_int (pa_cons pe_int (pa_cons (pe_un un_neg pe_int) pa_nil))))) (pa_cons pe_int pa_nil))) pa_nil))))))
      (pss_cons (ps_set (i := 3) sc_w_by_hand_right.nd rfl (Or.inl rfl) (pe_op op_cat (pv 3) (pe_lst (pa_cons pe_int (pa_cons (pe_un un_neg pe_int) (pa_cons (pe_tup (pa_cons pe_int (pa_cons pe_int (pa_cons pe_int (pa_cons (pe_un un_neg pe_int) pa_nil))))) (pa_cons pe_non (pa_cons pe_non (pa_cons (pe_tup (pa_cons pe_int (pa_cons pe_int (pa_cons pe_int (pa_cons pe_int pa_nil))))) pa_nil)))))))))
      (pss_cons (ps_set (i := 2) sc_w_by_hand_right.nd rfl (Or.inl rfl) (pe_op op_cat (pv 2) (pe_lst (pa_cons (pe_dn D_compared (hr.mono (by decide)) rfl (pa_cons (pv 0) (pa_cons (pv 1) pa_nil))) (pa_cons (pe_dn D_compared (hr.mono (by decide)) rfl (pa_cons (pv 1) (pa_cons (pv 0) pa_nil))) (pa_cons (pe_dn D_compared (hr.mono (by decide)) rfl (pa_cons (pv 1) (pa_cons (pv 1) pa_nil))) (pa_cons (pe_dn D_first_unlike (hr.mono (by decide)) rfl (pa_cons (pv 0) (pa_cons (pv 1) pa_nil))) (pa_cons (pe_dn D_first_unlike (hr.mono (by decide)) rfl (pa_cons (pv 1) (pa_cons (pe_tup (pa_cons pe_int (pa_cons pe_int (pa_cons pe_int (pa_cons pe_int pa_nil))))) pa_nil))) (pa_cons (pe_dn D_first_unlike (hr.mono (by decide)) rfl (pa_cons (pv 0) (pa_cons (pv 0) pa_nil))) pa_nil)))))))))
      (pss_cons (ps_set (i := 3) sc_w_by_hand_right.nd rfl (Or.inl rfl) (pe_op op_cat (pv 3) (pe_lst (pa_cons (pe_un un_neg pe_int) (pa_cons pe_int (pa_cons pe_int (pa_cons pe_int (pa_cons pe_int (pa_cons pe_non pa_nil)))))))))
      (pss_cons (ps_set (i := 2) sc_w_by_hand_right.nd rfl (Or.inl rfl) (pe_op op_cat (pe_op op_cat (pv 2) (pe_lc (own := [("_law_place", 4)]) rfl sc_w_by_hand_right.nd (pi_tup (pe_tup (pa_cons pe_int (pa_cons pe_int (pa_cons pe_int pa_nil))))) (blkOk_by (N := N_w_by_hand_right) (sc := defScope s_w_by_hand_right) (by decide +kernel)) (fun _ _ _ _ _ => (pg_name (i := 4) sc_w_by_hand_right.nd rfl (Or.inl rfl))) (fun _ _ _ _ _ => pts_nil) (fun _ _ _ _ _ => (pe_dn D_next_release (hr.mono (by decide)) rfl (pa_cons (pv 1) (pa_cons (pv 4) pa_nil)))))) (pe_lst (pa_cons (pe_dn D_newest_of (hr.mono (by decide)) rfl (pa_cons (pe_tup (pa_cons (pv 0) (pa_cons (pv 1) pa_nil))) (pa_cons pe_bl pa_nil))) (pa_cons (pe_dn D_newest_of (hr.mono (by decide)) rfl (pa_cons (pe_tup (pa_cons (pv 0) (pa_cons (pv 1) pa_nil))) (pa_cons pe_bl pa_nil))) pa_nil)))))
      (pss_cons (ps_set (i := 3) sc_w_by_hand_right.nd rfl (Or.inl rfl) (pe_op op_cat (pv 3) (pe_lst (pa_cons (pe_tup (pa_cons pe_int (pa_cons pe_int (pa_cons pe_int (pa_cons pe_int pa_nil))))) (pa_cons (pe_tup (pa_cons pe_int (pa_cons pe_int (pa_cons pe_int (pa_cons pe_int pa_nil))))) (pa_cons (pe_tup (pa_cons pe_int (pa_cons pe_int (pa_cons pe_int (pa_cons pe_int pa_nil))))) (pa_cons (pv 0) (pa_cons (pv 1) pa_nil))))))))
      (pss_cons (ps_set (i := 2) sc_w_by_hand_right.nd rfl (Or.inl rfl) (pe_op op_cat (pv 2) (pe_lst (pa_cons (pe_dn D_newest_of (hr.mono (by decide)) rfl (pa_cons (pe_tup (pa_cons (pv 1) pa_nil)) (pa_cons pe_bl pa_nil))) (pa_cons (pe_dn D_newest_of (hr.mono (by decide)) rfl (pa_cons (pe_tup pa_nil) (pa_cons pe_bl pa_nil))) (pa_cons (pe_dn D_from_best (hr.mono (by decide)) rfl (pa_cons (pe_tup (pa_cons (pv 0) (pa_cons (pv 1) (pa_cons (pv 0) pa_nil)))) pa_nil)) (pa_cons (pe_dn D_from_best (hr.mono (by decide)) rfl (pa_cons (pe_tup pa_nil) pa_nil)) pa_nil)))))))
      (pss_cons (ps_set (i := 3) sc_w_by_hand_right.nd rfl (Or.inl rfl) (pe_op op_cat (pv 3) (pe_lst (pa_cons pe_non (pa_cons pe_non (pa_cons (pe_tup (pa_cons (pv 1) (pa_cons (pv 0) pa_nil))) (pa_cons (pe_tup pa_nil) pa_nil)))))))
      (pss_cons (ps_set (i := 2) sc_w_by_hand_right.nd rfl (Or.inl rfl) (pe_op op_cat (pv 2) (pe_lst (pa_cons (pe_dk K_next_version (hr.mono (by decide)) rfl (pk_cons (pe_lst (pa_cons pe_int (pa_cons pe_int (pa_cons pe_int (pa_cons pe_int pa_nil))))) pk_nil)) (pa_cons (pe_dk K_steps_on (hr.mono (by decide)) rfl (pk_cons pe_int (pk_cons (pe_lst (pa_cons pe_int (pa_cons pe_int (pa_cons pe_int (pa_cons (pe_un un_neg pe_int) pa_nil))))) pk_nil))) (pa_cons (pe_dk K_newest_of (hr.mono (by decide)) rfl (pk_cons pe_bl (pk_cons (pe_lst (pa_cons (pe_lst (pa_cons pe_int (pa_cons pe_int (pa_cons pe_int (pa_cons pe_int pa_nil))))) pa_nil)) pk_nil))) pa_nil))))))
      (pss_one (ps_ret (pe_dn D_w_same (hr.mono (by decide)) rfl (pa_cons (pv 2) (pa_cons (pe_op op_cat (pv 3) (pe_lst (pa_cons (pe_tup (pa_cons pe_int (pa_cons pe_int (pa_cons pe_int (pa_cons (pe_un un_neg pe_int) pa_nil))))) (pa_cons (pe_tup (pa_cons pe_int (pa_cons pe_int (pa_cons pe_int (pa_cons pe_int pa_nil))))) (pa_cons (pe_tup (pa_cons pe_int (pa_cons pe_int (pa_cons pe_int (pa_cons pe_int pa_nil))))) pa_nil))))) pa_nil)))))))))))))))))))))), ?_⟩
    refine asg_g (EvE.tup (EvA.cons (EvE.tup (EvA.cons EvE.int (EvA.cons EvE.int (EvA.cons EvE.int (EvA.cons EvE.int EvA.nil))))) (EvA.cons (EvE.tup (EvA.cons EvE.int (EvA.cons EvE.int (EvA.cons EvE.int (EvA.cons (EvE.neg EvE.int) EvA.nil))))) EvA.nil))) fun r1 H1 s1 d1 => ?_
    obtain ⟨a, v, u, rfl, ha, hv, hw⟩ := two_of d1
    have hv : DR H1 v (dV vv) := hv
    have hw : DR H1 u (dV ww) := hw
    refine ⟨a, [v, u], rfl, SqT.of ha, rfl, v, [u], rfl, u, [], rfl, rfl, ?_⟩
    refine restate_st (σ2 := [some v, some u, none, none, none]) rfl ?_
    -- BODY
    refine asg_ev (EvE.lst (EvA.cons (EvE.p1 (x := vv) (EvE.var hv) (.inl rfl) (ok_of rfl)) (EvA.cons (EvE.p1 (x := ww) (EvE.var hw) (.inl rfl) (ok_of rfl)) (EvA.cons (EvE.p1 (x := (⟨1, 2, 4, -9⟩ : Ver)) (EvE.tup (EvA.cons EvE.int (EvA.cons EvE.int (EvA.cons EvE.int (EvA.cons (EvE.neg EvE.int) EvA.nil))))) (.inl rfl) (ok_of rfl)) (EvA.cons (EvE.p1 (x := (⟨1, 2, 0, -9⟩ : Ver)) (EvE.tup (EvA.cons EvE.int (EvA.cons EvE.int (EvA.cons EvE.int (EvA.cons (EvE.neg EvE.int) EvA.nil))))) (.inl rfl) (ok_of rfl)) (EvA.cons (EvE.p1 (x := (Ver.next vv)) (EvE.p1 (x := vv) (EvE.var hv) (.inl rfl) (ok_of rfl)) (.inl rfl) (ok_of rfl)) EvA.nil)))))) fun r2 H2 s2 d2 => ?_
    have hv := hv.mono s2
    have hw := hw.mono s2
    have hg := d2
    refine restate_st (σ2 := [some v, some u, some r2, none, none]) rfl ?_
    refine asg_ev (EvE.lst (EvA.cons (EvE.tup (EvA.cons EvE.int (EvA.cons EvE.int (EvA.cons EvE.int (EvA.cons (EvE.neg EvE.int) EvA.nil))))) (EvA.cons (EvE.tup (EvA.cons EvE.int (EvA.cons EvE.int (EvA.cons EvE.int (EvA.cons (EvE.neg EvE.int) EvA.nil))))) (EvA.cons (EvE.var hv) (EvA.cons EvE.non (EvA.cons (EvE.var hv) EvA.nil)))))) fun r3 H3 s3 d3 => ?_
    have hv := hv.mono s3
    have hw := hw.mono s3
    have hg := hg.mono s3
    have hd := d3
    refine restate_st (σ2 := [some v, some u, some r2, some r3, none]) rfl ?_
    refine asg_ev (EvE.cat (EvE.var hg) (EvE.lst (EvA.cons (EvE.p1i (x := vv) (EvE.var hv) EvE.int (.inl rfl) (ok_of rfl)) (EvA.cons (EvE.p1i (x := vv) (EvE.var hv) (EvE.neg EvE.int) (.inl rfl) (ok_of rfl)) (EvA.cons (EvE.p1i (x := ww) (EvE.var hw) EvE.int (.inl rfl) (ok_of rfl)) (EvA.cons (EvE.p1i (x := vv) (EvE.var hv) (EvE.neg EvE.int) (.inl rfl) (ok_of rfl)) (EvA.cons (EvE.p1i (x := (⟨0, 0, 0, -9⟩ : Ver)) (EvE.tup (EvA.cons EvE.int (EvA.cons EvE.int (EvA.cons EvE.int (EvA.cons (EvE.neg EvE.int) EvA.nil))))) (EvE.pow EvE.int EvE.int ⟨by decide, by decide, by decide⟩) (.inl rfl) (ok_of rfl)) EvA.nil))))))) fun r4 H4 s4 d4 => ?_
    have hv := hv.mono s4
    have hw := hw.mono s4
    have hg := d4
    refine restate_st (σ2 := [some v, some u, some r4, some r3, none]) rfl ?_
    have hd := hd.mono s4
    refine asg_ev (EvE.cat (EvE.var hd) (EvE.lst (EvA.cons (EvE.tup (EvA.cons EvE.int (EvA.cons EvE.int (EvA.cons EvE.int (EvA.cons EvE.int EvA.nil))))) (EvA.cons EvE.non (EvA.cons (EvE.var hw) (EvA.cons (EvE.tup (EvA.cons EvE.int (EvA.cons EvE.int (EvA.cons EvE.int (EvA.cons (EvE.neg EvE.int) EvA.nil))))) (EvA.cons (EvE.tup (EvA.cons EvE.int (EvA.cons EvE.int (EvA.cons (EvE.pow EvE.int EvE.int ⟨by decide, by decide, by decide⟩) (EvA.cons (EvE.neg EvE.int) EvA.nil))))) EvA.nil))))))) fun r5 H5 s5 d5 => ?_
    have hv := hv.mono s5
    have hw := hw.mono s5
    have hg := hg.mono s5
    have hd := d5
    refine restate_st (σ2 := [some v, some u, some r4, some r5, none]) rfl ?_
    refine asg_ev (EvE.cat (EvE.var hg) (EvE.lst (EvA.cons (EvE.p2 (x := vv) (y := ww) (EvE.var hv) (EvE.var hw) (.inl rfl) (.inl rfl) (ok_of rfl) (ok_of rfl)) (EvA.cons (EvE.p2 (x := ww) (y := vv) (EvE.var hw) (EvE.var hv) (.inl rfl) (.inl rfl) (ok_of rfl) (ok_of rfl)) (EvA.cons (EvE.p2 (x := vv) (y := (⟨1, 3, 0, 0⟩ : Ver)) (EvE.var hv) (EvE.tup (EvA.cons EvE.int (EvA.cons EvE.int (EvA.cons EvE.int (EvA.cons EvE.int EvA.nil))))) (.inl rfl) (.inl rfl) (ok_of rfl) (ok_of rfl)) (EvA.cons (EvE.p2 (x := vv) (y := (⟨2, 2, 3, 0⟩ : Ver)) (EvE.var hv) (EvE.tup (EvA.cons EvE.int (EvA.cons EvE.int (EvA.cons EvE.int (EvA.cons EvE.int EvA.nil))))) (.inl rfl) (.inl rfl) (ok_of rfl) (ok_of rfl)) (EvA.cons (EvE.p2 (x := vv) (y := vv) (EvE.var hv) (EvE.var hv) (.inl rfl) (.inl rfl) (ok_of rfl) (ok_of rfl)) EvA.nil))))))) fun r6 H6 s6 d6 => ?_
    have hv := hv.mono s6
    have hw := hw.mono s6
    have hg := d6
    refine restate_st (σ2 := [some v, some u, some r6, some r5, none]) rfl ?_
    have hd := hd.mono s6
    refine asg_ev (EvE.cat (EvE.var hd) (EvE.lst (EvA.cons EvE.int (EvA.cons (EvE.neg EvE.int) (EvA.cons EvE.non (EvA.cons EvE.non (EvA.cons EvE.int EvA.nil))))))) fun r7 H7 s7 d7 => ?_
    have hv := hv.mono s7
    have hw := hw.mono s7
    have hg := hg.mono s7
    have hd := d7
    refine restate_st (σ2 := [some v, some u, some r6, some r7, none]) rfl ?_
    refine asg_ev (EvE.cat (EvE.var hg) (EvE.lst (EvA.cons (EvE.p2 (x := (⟨1, 2, 0, -9⟩ : Ver)) (y := (⟨1, 2, 99, 0⟩ : Ver)) (EvE.tup (EvA.cons EvE.int (EvA.cons EvE.int (EvA.cons EvE.int (EvA.cons (EvE.neg EvE.int) EvA.nil))))) (EvE.tup (EvA.cons EvE.int (EvA.cons EvE.int (EvA.cons EvE.int (EvA.cons EvE.int EvA.nil))))) (.inl rfl) (.inl rfl) (ok_of rfl) (ok_of rfl)) (EvA.cons (EvE.p2 (x := (⟨1, 2, 99, 0⟩ : Ver)) (y := (⟨1, 2, 0, -9⟩ : Ver)) (EvE.tup (EvA.cons EvE.int (EvA.cons EvE.int (EvA.cons EvE.int (EvA.cons EvE.int EvA.nil))))) (EvE.tup (EvA.cons EvE.int (EvA.cons EvE.int (EvA.cons EvE.int (EvA.cons (EvE.neg EvE.int) EvA.nil))))) (.inl rfl) (.inl rfl) (ok_of rfl) (ok_of rfl)) (EvA.cons (EvE.p1i (x := (⟨1, 2, 99, 0⟩ : Ver)) (EvE.tup (EvA.cons EvE.int (EvA.cons EvE.int (EvA.cons EvE.int (EvA.cons EvE.int EvA.nil))))) (EvE.neg EvE.int) (.inl rfl) (ok_of rfl)) EvA.nil))))) fun r8 H8 s8 d8 => ?_
    have hv := hv.mono s8
    have hw := hw.mono s8
    have hg := d8
    refine restate_st (σ2 := [some v, some u, some r8, some r7, none]) rfl ?_
    have hd := hd.mono s8
    refine asg_ev (EvE.cat (EvE.var hg) (EvE.lst (EvA.cons (EvE.p1i (x := (⟨1, 2, 99, 0⟩ : Ver)) (EvE.tup (EvA.cons EvE.int (EvA.cons EvE.int (EvA.cons EvE.int (EvA.cons EvE.int EvA.nil))))) (EvE.neg EvE.int) (.inl rfl) (ok_of rfl)) (EvA.cons (EvE.p1i (x := (⟨1, 2, 99, 0⟩ : Ver)) (EvE.tup (EvA.cons EvE.int (EvA.cons EvE.int (EvA.cons EvE.int (EvA.cons EvE.int EvA.nil))))) (EvE.neg (EvE.pow EvE.int EvE.int ⟨by decide, by decide, by decide⟩)) (.inl rfl) (ok_of rfl)) (EvA.cons (EvE.p1i (x := (⟨1, 2, 0, -9⟩ : Ver)) (EvE.tup (EvA.cons EvE.int (EvA.cons EvE.int (EvA.cons EvE.int (EvA.cons (EvE.neg EvE.int) EvA.nil))))) EvE.int (.inl rfl) (ok_of rfl)) EvA.nil))))) fun r9 H9 s9 d9 => ?_
    have hv := hv.mono s9
    have hw := hw.mono s9
    have hg := d9
    refine restate_st (σ2 := [some v, some u, some r9, some r7, none]) rfl ?_
    have hd := hd.mono s9
    refine asg_ev (EvE.cat (EvE.var hd) (EvE.lst (EvA.cons EvE.int (EvA.cons (EvE.neg EvE.int) (EvA.cons (EvE.tup (EvA.cons EvE.int (EvA.cons EvE.int (EvA.cons EvE.int (EvA.cons (EvE.neg EvE.int) EvA.nil))))) (EvA.cons EvE.non (EvA.cons EvE.non (EvA.cons (EvE.tup (EvA.cons EvE.int (EvA.cons EvE.int (EvA.cons EvE.int (EvA.cons EvE.int EvA.nil))))) EvA.nil)))))))) fun r10 H10 s10 d10 => ?_
    have hv := hv.mono s10
    have hw := hw.mono s10
    have hg := hg.mono s10
    have hd := d10
    refine restate_st (σ2 := [some v, some u, some r9, some r10, none]) rfl ?_
    refine asg_ev (EvE.cat (EvE.var hg) (EvE.lst (EvA.cons (EvE.p2 (x := vv) (y := ww) (EvE.var hv) (EvE.var hw) (.inl rfl) (.inl rfl) (ok_of rfl) (ok_of rfl)) (EvA.cons (EvE.p2 (x := ww) (y := vv) (EvE.var hw) (EvE.var hv) (.inl rfl) (.inl rfl) (ok_of rfl) (ok_of rfl)) (EvA.cons (EvE.p2 (x := ww) (y := ww) (EvE.var hw) (EvE.var hw) (.inl rfl) (.inl rfl) (ok_of rfl) (ok_of rfl)) (EvA.cons (EvE.p2 (x := vv) (y := ww) (EvE.var hv) (EvE.var hw) (.inl rfl) (.inl rfl) (ok_of rfl) (ok_of rfl)) (EvA.cons (EvE.p2 (x := ww) (y := (⟨1, 2, 4, 0⟩ : Ver)) (EvE.var hw) (EvE.tup (EvA.cons EvE.int (EvA.cons EvE.int (EvA.cons EvE.int (EvA.cons EvE.int EvA.nil))))) (.inl rfl) (.inl rfl) (ok_of rfl) (ok_of rfl)) (EvA.cons (EvE.p2 (x := vv) (y := vv) (EvE.var hv) (EvE.var hv) (.inl rfl) (.inl rfl) (ok_of rfl) (ok_of rfl)) EvA.nil)))))))) fun r11 H11 s11 d11 => ?_
    have hv := hv.mono s11
    have hw := hw.mono s11
    have hg := d11
    refine restate_st (σ2 := [some v, some u, some r11, some r10, none]) rfl ?_
    have hd := hd.mono s11
    refine asg_ev (EvE.cat (EvE.var hd) (EvE.lst (EvA.cons (EvE.neg EvE.int) (EvA.cons EvE.int (EvA.cons EvE.int (EvA.cons EvE.int (EvA.cons EvE.int (EvA.cons EvE.non EvA.nil)))))))) fun r12 H12 s12 d12 => ?_
    have hv := hv.mono s12
    have hw := hw.mono s12
    have hg := hg.mono s12
    have hd := d12
    refine restate_st (σ2 := [some v, some u, some r11, some r12, none]) rfl ?_
    refine asg_ev (EvE.cat (EvE.cat (EvE.var hg) (EvE.lc (ds := [.int 0, .int 1, .int 2]) (es := [dV (Ver.rel ww 0), dV (Ver.rel ww 1), dV (Ver.rel ww 2)]) (EvE.tup (EvA.cons EvE.int (EvA.cons EvE.int (EvA.cons EvE.int EvA.nil)))) rfl rfl (fun v => rfl) (by decide) (rels hw (fun _ => rfl) (fun _ => rfl)))) (EvE.lst (EvA.cons (EvE.newest (lot := [vv, ww]) (line := [ww, vv]) (EvE.tup (EvA.cons (EvE.var hv) (EvA.cons (EvE.var hw) EvA.nil))) EvE.bl ⟨rfl, by decide, rfl⟩ (lotOk_of (by decide)) (isLine_of (by decide) (by decide) (by decide))) (EvA.cons (EvE.newest (lot := [vv, ww]) (line := [ww, vv]) (EvE.tup (EvA.cons (EvE.var hv) (EvA.cons (EvE.var hw) EvA.nil))) EvE.bl ⟨rfl, by decide, rfl⟩ (lotOk_of (by decide)) (isLine_of (by decide) (by decide) (by decide))) EvA.nil)))) fun r13 H13 s13 d13 => ?_
    have hv := hv.mono s13
    have hw := hw.mono s13
    have hg := d13
    refine restate_st (σ2 := [some v, some u, some r13, some r12, none]) rfl ?_
    have hd := hd.mono s13
    refine asg_ev (EvE.cat (EvE.var hd) (EvE.lst (EvA.cons (EvE.tup (EvA.cons EvE.int (EvA.cons EvE.int (EvA.cons EvE.int (EvA.cons EvE.int EvA.nil))))) (EvA.cons (EvE.tup (EvA.cons EvE.int (EvA.cons EvE.int (EvA.cons EvE.int (EvA.cons EvE.int EvA.nil))))) (EvA.cons (EvE.tup (EvA.cons EvE.int (EvA.cons EvE.int (EvA.cons EvE.int (EvA.cons EvE.int EvA.nil))))) (EvA.cons (EvE.var hv) (EvA.cons (EvE.var hw) EvA.nil))))))) fun r14 H14 s14 d14 => ?_
    have hv := hv.mono s14
    have hw := hw.mono s14
    have hg := hg.mono s14
    have hd := d14
    refine restate_st (σ2 := [some v, some u, some r13, some r14, none]) rfl ?_
    refine asg_ev (EvE.cat (EvE.var hg) (EvE.lst (EvA.cons (EvE.newest (lot := [ww]) (line := [ww]) (EvE.tup (EvA.cons (EvE.var hw) EvA.nil)) EvE.bl ⟨rfl, by decide, rfl⟩ (lotOk_of (by decide)) (isLine_of (by decide) (by decide) (by decide))) (EvA.cons (EvE.newest (lot := []) (line := []) (EvE.tup EvA.nil) EvE.bl ⟨rfl, by decide, rfl⟩ (lotOk_of (by decide)) (isLine_of (by decide) (by decide) (by decide))) (EvA.cons (EvE.best (lot := [vv, ww, vv]) (line := [ww, vv]) (EvE.tup (EvA.cons (EvE.var hv) (EvA.cons (EvE.var hw) (EvA.cons (EvE.var hv) EvA.nil)))) ⟨rfl, by decide, rfl⟩ (lotOk_of (by decide)) (isLine_of (by decide) (by decide) (by decide))) (EvA.cons (EvE.best (lot := []) (line := []) (EvE.tup EvA.nil) ⟨rfl, by decide, rfl⟩ (lotOk_of (by decide)) (isLine_of (by decide) (by decide) (by decide))) EvA.nil)))))) fun r15 H15 s15 d15 => ?_
    have hv := hv.mono s15
    have hw := hw.mono s15
    have hg := d15
    refine restate_st (σ2 := [some v, some u, some r15, some r14, none]) rfl ?_
    have hd := hd.mono s15
    refine asg_ev (EvE.cat (EvE.var hd) (EvE.lst (EvA.cons EvE.non (EvA.cons EvE.non (EvA.cons (EvE.tup (EvA.cons (EvE.var hw) (EvA.cons (EvE.var hv) EvA.nil))) (EvA.cons (EvE.tup EvA.nil) EvA.nil)))))) fun r16 H16 s16 d16 => ?_
    have hv := hv.mono s16
    have hw := hw.mono s16
    have hg := hg.mono s16
    have hd := d16
    refine restate_st (σ2 := [some v, some u, some r15, some r16, none]) rfl ?_
    refine asg_ev (EvE.cat (EvE.var hg) (EvE.lst (EvA.cons (EvE.kp1 (x := (⟨0, 0, 0, 0⟩ : Ver)) (EvE.lst (EvA.cons EvE.int (EvA.cons EvE.int (EvA.cons EvE.int (EvA.cons EvE.int EvA.nil))))) (.inr rfl) (ok_of rfl)) (EvA.cons (EvE.kp1i (x := (⟨0, 0, 0, -1⟩ : Ver)) EvE.int (EvE.lst (EvA.cons EvE.int (EvA.cons EvE.int (EvA.cons EvE.int (EvA.cons (EvE.neg EvE.int) EvA.nil))))) (.inr rfl) (ok_of rfl)) (EvA.cons (EvE.knewest (lot := [(⟨1, 0, 0, 0⟩ : Ver)]) (line := [(⟨1, 0, 0, 0⟩ : Ver)]) EvE.bl (EvE.lst (EvA.cons (EvE.lst (EvA.cons EvE.int (EvA.cons EvE.int (EvA.cons EvE.int (EvA.cons EvE.int EvA.nil))))) EvA.nil)) ⟨rfl, by decide, rfl⟩ (lotOk_of (by decide)) (isLine_of (by decide) (by decide) (by decide))) EvA.nil))))) fun r17 H17 s17 d17 => ?_
    have hv := hv.mono s17
    have hw := hw.mono s17
    have hg := d17
    refine restate_st (σ2 := [some v, some u, some r17, some r16, none]) rfl ?_
    have hd := hd.mono s17
    refine ret_same (ds := _) (EvE.var hg) (EvE.cat (EvE.var hd) (EvE.lst (EvA.cons (EvE.tup (EvA.cons EvE.int (EvA.cons EvE.int (EvA.cons EvE.int (EvA.cons (EvE.neg EvE.int) EvA.nil))))) (EvA.cons (EvE.tup (EvA.cons EvE.int (EvA.cons EvE.int (EvA.cons EvE.int (EvA.cons EvE.int EvA.nil))))) (EvA.cons (EvE.tup (EvA.cons EvE.int (EvA.cons EvE.int (EvA.cons EvE.int (EvA.cons EvE.int EvA.nil))))) EvA.nil))))) ?_ ?_ ?_ ?_
    · rfl
    · rfl
    · decide
    · intro H' sl
      exact q _ (((((((((((((((((s1.trans s2).trans s3).trans s4).trans s5).trans s6).trans s7).trans s8).trans s9).trans s10).trans s11).trans s12).trans s13).trans s14).trans s15).trans s16).trans s17).trans sl)
    -- BODYEND
end

section
variable {te tb : TE} {ta : TA} {σ : L2.St} {H0 : Hp} {d e : PyData} {ds es : List PyData} {v : V} {i j : Int} {x y : Ver} {K : PySem.W.Frag}
theorem EvE.listOf (h : EvE te σ H0 d) (hd : d = .tuple ds ∨ d = .list ds) : EvE (tCB (fun xs H Q => ∃ p ys, xs = [.ref p] ∧ (SqL K H p ys ∨ SqT K H p ys) ∧ ∀ l, H l = none → Q (.ref l) (upd H l (.lst ys))) (tCons te tNil)) σ H0 (.list ds) := fun H Q s q =>
  h H _ s fun r H1 s1 d1 => by
    rcases hd with rfl | rfl
    · cases d1 with
      | tup a b => exact ⟨_, _, rfl, .inr (SqT.of a), fun l nl => q _ _ (s1.trans (sn nl)) (.lst upd_same (b.mono (sn nl)))⟩
    · cases d1 with
      | lst a b => exact ⟨_, _, rfl, .inl (SqL.of a), fun l nl => q _ _ (s1.trans (sn nl)) (.lst upd_same (b.mono (sn nl)))⟩
theorem EvE.listV (h : EvE te σ H0 (dV x)) : EvE (tCB (fun xs H Q => ∃ p ys, xs = [.ref p] ∧ (SqL K H p ys ∨ SqT K H p ys) ∧ ∀ l, H l = none → Q (.ref l) (upd H l (.lst ys))) (tCons te tNil)) σ H0 (dL x) := EvE.listOf h (.inl rfl)
theorem EvE.tupOf (h : EvE te σ H0 (.list ds)) : EvE (tCB (rTupOf K) (tCons te tNil)) σ H0 (.tuple ds) := fun H Q s q =>
  h H _ s fun r H1 s1 d1 => by
    cases d1 with
    | lst a b => exact Nf.tupOf (.inr a) fun r2 H2 s2 h2 => q _ _ (s1.trans s2) (.tup h2 (b.mono s2))
theorem EvE.ix0 (h : EvE te σ H0 (.list es)) (e : es = d :: ds) : EvE (tOp (rIx K) te (tC (.int 0))) σ H0 d := fun H Q s q =>
  h H _ s fun r H1 s1 d1 => by
    subst e
    cases d1 with
    | lst a b =>
      cases b with
      | cons b1 b2 => exact ixl (j := 0) a rfl (q _ _ s1 b1)
theorem EvE.subZ (h : EvE te σ H0 (.int i)) (k : EvE tb σ H0 (.int j)) : EvE (tOp (rI0 fun i j => .int (i - j)) te tb) σ H0 (.int (i - j)) := EvE.sub h k
theorem EvE.newer (h : EvE te σ H0 (dV x)) (k : EvE tb σ H0 (dV y)) : EvE (tCall spNewer [] E0 (tCons te (tCons tb tNil))) σ H0 (.bool (Ver.newer x y)) := fun H Q s q =>
  h H _ s fun r H1 s1 d1 => k H1 _ (s.trans s1) fun r2 H2 s2 d2 => ⟨r, r2, x, y, rfl, tupAt_of (d1.mono s2), tupAt_of d2, fun H3 s3 => q _ _ ((s1.trans s2).trans s3) (.bl _)⟩
theorem EvE.intB {b : Bool} (h : EvE te σ H0 (.bool b)) : EvE (tCB (fun xs H Q => (∃ i, xs = [.int i] ∧ Q (.int i) H) ∨ ∃ k, xs = [.bl k] ∧ Q (.int (if k then 1 else 0)) H) (tCons te tNil)) σ H0 (.int (if b then 1 else 0)) := fun H Q s q =>
  h H _ s fun r H1 s1 d1 => by cases d1; exact .inr ⟨b, rfl, q _ _ s1 (.int _)⟩
theorem EvE.best_lists {lot line : List Ver} (h : EvE te σ H0 (.list (lot.map dV))) (ok : LotOk lot) (L : Ver.IsLine lot line) : EvE (tCall spBest [] E0 (tCons (tCall spLl [] E0 (tCons te tNil)) tNil)) σ H0 (.tuple (line.map dV)) := fun H Q s q =>
  h H _ s fun r H1 s1 d1 => by
    cases d1 with
    | lst a b =>
      exact ⟨_, _, lot, rfl, a, b, ok.few, fun r2 H2 s2 l2 => ⟨r2, lot, rfl, l2, ok, fun r3 H3 line2 s3 L2 d3 => q _ _ ((s1.trans s2).trans s3) (by rw [L.unique L2]; exact d3)⟩⟩
/-- a list of data, unlike the box of draws, stands through draws -/
theorem DR.sxl {t : Addr} {n : Nat} {H H' : Hp} (h : DR H v (.list ds)) (tin : Tin t n H) (l : ds.length ≠ 3) (nl : noLs ds = true) (sx : Sx t H H') : DR H' v (.list ds) := by
  cases h with
  | @lst a xs _ h1 h2 =>
    obtain ⟨i, j, k, ht, _⟩ := id tin
    have ne : a ≠ t := fun e => by
      rw [e, ht] at h1
      cases h1
      exact l h2.len.symm
    exact .lst (sx _ _ ne h1) (h2.keep (tin.t0 sx) _ nl)
end
theorem okTs_dV : ∀ lot : List Ver, okTs (lot.map dV) = true
  | [] => rfl
  | v :: lot => by
    show (okT (dV v) && okTs (lot.map dV)) = true
    rw [okTs_dV lot]
    rfl
theorem tupDs_dV : ∀ lot : List Ver, tupDs (lot.map dV) = lot.map dV
  | [] => rfl
  | v :: lot => by
    show tupD (dV v) :: tupDs (lot.map dV) = dV v :: lot.map dV
    rw [tupDs_dV lot]
    rfl
theorem ld_tup {lot : List Ver} (h : lot.length < 64) : IsLD (.tuple (lot.map dV)) lot := by
  refine ⟨?_, ?_, ?_⟩
  · show (decide ((lot.map dV).length ≤ 1000) && okTs (lot.map dV)) = true
    rw [okTs_dV, List.length_map, decide_eq_true (by omega)]
    rfl
  · have := depth_vers lot
    show PyData.depthAll (lot.map dV) + 1 < 3
    omega
  · show PyData.tuple (tupDs (lot.map dV)) = _
    rw [tupDs_dV]
theorem ld_lst {lot : List Ver} (h : lot.length < 64) : IsLD (.list (lot.map dV)) lot := by
  refine ⟨?_, ?_, ?_⟩
  · show (decide ((lot.map dV).length ≤ 1000) && okTs (lot.map dV)) = true
    rw [okTs_dV, List.length_map, decide_eq_true (by omega)]
    rfl
  · have := depth_vers lot
    show PyData.depthAll (lot.map dV) + 1 < 3
    omega
  · show PyData.tuple (tupDs (lot.map dV)) = _
    rw [tupDs_dV]
theorem head_dO (line : List Ver) : ∃ r, line.map dV ++ [.none] = dO line.head? :: r := by
  cases line with
  | nil => exact ⟨[], rfl⟩
  | cons v r => exact ⟨r.map dV ++ [.none], rfl⟩
theorem okSs_dV : ∀ lot : List Ver, okSs (lot.map dV) = true
  | [] => rfl
  | v :: lot => by
    show (okS (dV v) && okSs (lot.map dV)) = true
    rw [okSs_dV lot]
    rfl
theorem okS_line {line : List Ver} (h : line.length ≤ 1000) : okS (.tuple (line.map dV)) = true := by
  show (decide ((line.map dV).length ≤ 1000) && okSs (line.map dV)) = true
  rw [okSs_dV, List.length_map, decide_eq_true h]
  rfl
theorem okS_dO (o : Option Ver) : okS (dO o) = true := by cases o <;> rfl
theorem okS_dI (o : Option Int) : okS (dI o) = true := by cases o <;> rfl
theorem okS_dN (o : Option Nat) : okS (dN o) = true := by cases o <;> rfl
theorem dep_dO (o : Option Ver) : (dO o).depth ≤ 1 := by
  cases o with
  | none => exact Nat.zero_le _
  | some v => exact Nat.le_of_eq (depth_tup v.l)
theorem dep_dI (o : Option Int) : (dI o).depth = 0 := by cases o <;> rfl
theorem dep_dN (o : Option Nat) : (dN o).depth = 0 := by cases o <;> rfl
theorem dep_dV (v : Ver) : (dV v).depth = 1 := depth_tup v.l
theorem dep_line (line : List Ver) : (PyData.tuple (line.map dV)).depth ≤ 2 := by
  have := depth_vers line
  show PyData.depthAll (line.map dV) + 1 ≤ 2
  omega
theorem Ver.Cl.near {x y : Ver} (h : Ver.Cl 12 x y) (ox : x.Ok) : Ver.Near x y := by
  obtain ⟨⟨_, _, _, y9, y0⟩, _, _, c1, c2⟩ := h
  obtain ⟨_, _, _, x9, x0⟩ := ox
  intro _ _
  unfold Ver.rank
  omega
theorem Ver.Near.symm {x y : Ver} (h : Ver.Near x y) : Ver.Near y x := fun a b => let ⟨p, q⟩ := h a.symm b.symm; ⟨q, p⟩

/-- the places at which two differ -/
def Ver.unl (x y : Ver) (n : Nat) : List Nat := (List.range n).filter fun k => !decide (x.l.getD k 0 = y.l.getD k 0)
def dK (k : Nat) : PyData := .int k
theorem unl_head (x y : Ver) : ∃ r, (Ver.unl x y 4).map dK ++ [.none] = dN (Ver.unlike x y) :: r := by
  unfold Ver.unl Ver.unlike
  rw [show List.range 4 = [0, 1, 2, 3] from rfl]
  have g0 : ∀ v : Ver, v.l.getD 0 0 = v.a := fun _ => rfl
  have g1 : ∀ v : Ver, v.l.getD 1 0 = v.b := fun _ => rfl
  have g2 : ∀ v : Ver, v.l.getD 2 0 = v.c := fun _ => rfl
  have g3 : ∀ v : Ver, v.l.getD 3 0 = v.d := fun _ => rfl
  by_cases ha : x.a = y.a
  · by_cases hb : x.b = y.b
    · by_cases hc : x.c = y.c
      · by_cases hd : x.d = y.d
        · simp [-List.getD_eq_getElem?_getD, List.filter, ha, hb, hc, hd, g0, g1, g2, g3, dN]
        · simp [-List.getD_eq_getElem?_getD, List.filter, ha, hb, hc, hd, g0, g1, g2, g3, dN, dK]
      · simp [-List.getD_eq_getElem?_getD, List.filter, ha, hb, hc, g0, g1, g2, dN, dK]
    · simp [-List.getD_eq_getElem?_getD, List.filter, ha, hb, g0, g1, dN, dK]
  · simp [-List.getD_eq_getElem?_getD, List.filter, ha, g0, dN, dK]
theorem unl_succ_yes {x y : Ver} {n : Nat} (h : ¬ x.l.getD n 0 = y.l.getD n 0) : Ver.unl x y (n + 1) = Ver.unl x y n ++ [n] := by
  unfold Ver.unl
  rw [List.range_succ, List.filter_append, List.filter_cons_of_pos (by simpa using h)]
  rfl
theorem unl_succ_no {x y : Ver} {n : Nat} (h : x.l.getD n 0 = y.l.getD n 0) : Ver.unl x y (n + 1) = Ver.unl x y n := by
  unfold Ver.unl
  rw [List.range_succ, List.filter_append, List.filter_cons_of_neg (by simpa using h)]
  exact List.append_nil _
theorem unl_len (x y : Ver) (n : Nat) : (Ver.unl x y n).length ≤ n := by
  unfold Ver.unl
  refine Nat.le_trans (List.length_filter_le _ _) ?_
  rw [List.length_range]
  exact Nat.le_refl _
theorem noLs_dK : ∀ ks : List Nat, noLs (ks.map dK) = true
  | [] => rfl
  | k :: ks => by
    show (noL (dK k) && noLs (ks.map dK)) = true
    rw [noLs_dK ks]
    rfl
theorem EvE.unl {K : PySem.W.Frag} {σ : L2.St} {H0 : Hp} {v u : V} {x y : Ver} (a1 : DR H0 v (dV x)) (a2 : DR H0 u (dV y)) (hw : ∀ k, wipe ((wipe σ [7]).set 7 (some k)) [7] = wipe σ [7]) (e1 : ∀ k, ((wipe σ [7]).set 7 (some k))[1]? = some (some v)) (e2 : ∀ k, ((wipe σ [7]).set 7 (some k))[2]? = some (some u)) (e7 : ∀ k, ((wipe σ [7]).set 7 (some k))[7]? = some (some k)) :
    EvE (tLc (iRng1 (tCons (tC (.int 4)) tNil)) (gName 7) (tTest (tOp rNe (tOp (rIx K) (tVar 1) (tVar 7)) (tOp (rIx K) (tVar 2) (tVar 7)))) (tVar 7) [7]) σ H0 (.list ((Ver.unl x y 4).map dK)) := fun H Q s q => by
  refine ⟨_, rfl, by decide, by decide, fun D nD => lc_range (lo := 0) (n := 4) (fun i H' => MkD H D ((Ver.unl x y i).map dK) H') (MkD.start nD) (fun i H' hi m => ?_) fun H' m => ?_⟩
  · rw [Int.zero_add]
    have b1 := tupAt_of ((a1.mono s).mono m.1)
    have b2 := tupAt_of ((a2.mono s).mono m.1)
    refine ⟨hw _, v, e1 _, _, e7 _, ixv b1.ver (atVn hi) ⟨u, e2 _, _, e7 _, ixv b2.ver (atVn hi) ⟨rfl, _, rfl, ?_⟩⟩⟩
    have : (!decide (V.int (x.l.getD i 0) = V.int (y.l.getD i 0))) = !decide (x.l.getD i 0 = y.l.getD i 0) := by
      by_cases h : x.l.getD i 0 = y.l.getD i 0
      · rw [h]; simp
      · have : ¬ V.int (x.l.getD i 0) = V.int (y.l.getD i 0) := fun z => h (V.int.inj z)
        rw [decide_eq_false h, decide_eq_false this]
    rw [this]
    by_cases h : x.l.getD i 0 = y.l.getD i 0
    · rw [decide_eq_true h]
      refine iteF ?_
      rw [unl_succ_no h]
      exact m
    · rw [decide_eq_false h]
      refine iteT ⟨_, e7 _, ?_⟩
      rw [unl_succ_yes h, List.map_append]
      refine m.add (noLs_dK _) rfl ?_ (Same.refl _) (.int _)
      rw [List.length_map]
      have := unl_len x y i
      omega
  · obtain ⟨s1, _, acc, ha, da⟩ := m
    exact q _ _ s1 (.lst ha da)
theorem EvE.rels2 {K : PySem.W.Frag} {te : TE} {σ : L2.St} {H0 : Hp} {line : List Ver} (h : EvE te σ H0 (.tuple (line.map dV))) (ll : line.length < 1000) (hw : ∀ k, wipe ((wipe σ [14]).set 14 (some k)) [14] = wipe σ [14]) (e : ∀ k, ((wipe σ [14]).set 14 (some k))[14]? = some (some k)) :
    EvE (tLc (iTup K te) (gName 14) (tTest (tOp rEq (tOp (rIx K) (tVar 14) (tC (.int 3))) (tC (.int 0)))) (tVar 14) [14]) σ H0 (.list ((line.filter fun v => decide (v.d = 0)).map dV)) := fun H Q s q =>
  h H _ s fun r H1 s1 d1 => by
    cases d1 with
    | @tup a xs _ h1 h2 =>
      refine ⟨a, rfl, ⟨xs, SqT.of h1⟩, fun D nD => lc_tup (xs := xs) (fun i H' => MkD H1 D (((line.take i).filter fun v => decide (v.d = 0)).map dV) H') (MkD.start nD) (fun i H' _ m => SqT.of (m.1 _ _ h1)) (fun k v H' hv m => ⟨hw _, ?_⟩) fun H' m => ?_⟩
      · obtain ⟨u, eu, tu⟩ := h2.verAt hv
        refine ⟨v, e _, ixv (tu.mono m.1).ver atV3 ⟨rfl, _, rfl, ?_⟩⟩
        have : decide (V.int u.d = V.int 0) = decide (u.d = 0) := by
          by_cases h : u.d = 0
          · rw [h]; simp
          · have : ¬ V.int u.d = V.int 0 := fun z => h (V.int.inj z)
            rw [decide_eq_false h, decide_eq_false this]
        rw [this]
        by_cases c : u.d = 0
        · rw [decide_eq_true c]
          refine iteT ⟨v, e _, ?_⟩
          rw [take_filter_yes eu (decide_eq_true c), List.map_append]
          refine m.add (noLs_vers _) (noL_dV u) ?_ (Same.refl _) (tu.mono m.1).dr
          rw [List.length_map]
          have := len_filter_take (line := line) (p := fun v => decide (v.d = 0)) (i := k)
          omega
        · rw [decide_eq_false c]
          refine iteF ?_
          rw [take_filter_no eu (decide_eq_false c)]
          exact m
      · have m : MkD H1 D (((line.take xs.length).filter fun v => decide (v.d = 0)).map dV) H' := m
        rw [List.take_of_length_le (by rw [drs_vers line h2]; exact Nat.le_refl _)] at m
        obtain ⟨s2, _, acc, ha, da⟩ := m
        exact q _ _ (s1.trans s2) (.lst ha da)
theorem len1 {l : List Ver} (h : l.length < 900) : Nat.ble ((l.map dV).length + [PyData.none].length) 1000 = true := by
  rw [List.length_map]
  exact Nat.ble_eq_true_of_le (by show l.length + 1 ≤ 1000; omega)
theorem Ver.Lo.sm {x : Ver} (h : Ver.Lo x) : x.Sm := ⟨h.ok, by have := h.a1; omega, by have := h.b1; omega, by have := h.c1; omega⟩
theorem Ver.Cl.bound {n k : Nat} {x y : Ver} (h : Ver.Cl n x y) (a : x.a ≤ k) (b : x.b ≤ k) (c : x.c ≤ k) : y.a ≤ k + n ∧ y.b ≤ k + n ∧ y.c ≤ k + n := ⟨by have := h.a1; omega, by have := h.b1; omega, by have := h.c1; omega⟩
section
variable {P : Program} {w : World} {K : PySem.W.Frag} {mg : Str → Option Value} {base : Heap}
def spRight : Sp := fun vs H Q _ => ∃ t, vs = [.ref t] ∧ Tin t 0 H ∧ ∀ H', Sx t H H' → Q (.bl true) H'
theorem d_right (B : Bi mg) (E : De K mg "_law_right" s_w_right P_w_right)
    (D_next_version : Dn P w K mg base 3 "next_version" P_next_version (p1 fun x => dV x.next))
    (D_version_ahead : Dn P w K mg base 3 "version_ahead" P_version_ahead (p1 fun x => dO x.ahead))
    (D_steps_on : Dn P w K mg base 2 "steps_on" P_steps_on (p1i fun x m => dO (x.on m)))
    (D_steps_between : Dn P w K mg base 2 "steps_between" P_steps_between (p2 fun x y => dI (Ver.btw x y)))
    (D_compared : Dn P w K mg base 2 "compared" P_compared (p2 fun x y => .int (Ver.comp x y)))
    (D_first_unlike : Dn P w K mg base 1 "first_unlike" P_first_unlike (p2 fun x y => dN (Ver.unlike x y)))
    (D_next_release : Dn P w K mg base 1 "next_release" P_next_release spRel)
    (D_from_best : Dn P w K mg base 4 "from_best" P_from_best spBest)
    (D_newest_of : Dn P w K mg base 5 "newest_of" P_newest_of spNewest)
    (D_w_same : Dn P w K mg base 4 "_law_same" P_w_same (spSame 4))
    (D_w_some : Dn P w K mg base 3 "_law_some" P_w_some spSome)
    (D_w_close : Dn P w K mg base 3 "_law_close" P_w_close spClose)
    (D_w_take : Dn P w K mg base 1 "_law_take" P_w_take spTake)
    (D_w_of : Dn P w K mg base 2 "_law_of" P_w_of spOf)
    (D_w_next : Dn P w K mg base 1 "_law_next" P_w_next (t1 fun x => dV x.next))
    (D_w_ahead : Dn P w K mg base 3 "_law_ahead" P_w_ahead (t1 fun x => dO x.ahead))
    (D_w_walk : Dn P w K mg base 4 "_law_walk" P_w_walk spWalk)
    (D_w_between : Dn P w K mg base 3 "_law_between" P_w_between spBtw)
    (D_w_newer : Dn P w K mg base 1 "_law_newer" P_w_newer spNewer)
    (D_w_bumped : Dn P w K mg base 2 "_law_bumped" P_w_bumped spBump)
    (D_w_sorted : Dn P w K mg base 2 "_law_sorted" P_w_sorted spSorted)
    (D_w_lists : Dn P w K mg base 3 "_law_lists" P_w_lists spLl) :
    Dn P w K mg base 6 "_law_right" P_w_right spRight :=
  E.dn fun f fd F => F.ok sc_w_right (fun vs H Q E h => by obtain ⟨_, rfl, _⟩ := h; rfl) fun cdv A outer s H vs Q E hr h => by
    obtain ⟨t, rfl, tin, q⟩ := h
    refine ⟨_, (pss_cons (ps_set (i := 1) sc_w_right.nd rfl (Or.inr rfl) (pe_dn D_w_some (hr.mono (by decide)) rfl (pa_cons (pv 0) pa_nil)))
      (pss_cons (ps_asg (pe_tup (pa_cons (pe_dn D_w_close (hr.mono (by decide)) rfl (pa_cons (pv 0) (pa_cons (pv 1) pa_nil))) (pa_cons (pe_op op_sub (pe_dn D_w_take (hr.mono (by decide)) rfl (pa_cons (pv 0) (pa_cons pe_int pa_nil))) pe_int) pa_nil))) (pg_tup rfl (pgs_cons (pg_name (i := 2) sc_w_right.nd rfl (Or.inr rfl)) (pgs_cons (pg_name (i := 3) sc_w_right.nd rfl (Or.inl rfl)) pgs_nil))))
      (pss_cons (ps_set (i := 4) sc_w_right.nd rfl (Or.inl rfl) (pe_lst (pa_cons (pe_dn D_next_version (hr.mono (by decide)) rfl (pa_cons (pv 1) pa_nil)) (pa_cons (pe_dn D_next_version (hr.mono (by decide)) rfl (pa_cons (pe_callTy call_list_of (by rfl) B.list (by decide +kernel) (pa_cons (pv 2) pa_nil)) pa_nil)) (pa_cons (pe_dn D_version_ahead (hr.mono (by decide)) rfl (pa_cons (pv 1) pa_nil)) (pa_cons (pe_dn D_version_ahead (hr.mono (by decide)) rfl (pa_cons (pe_callTy call_list_of (by rfl) B.list (by decide +kernel) (pa_cons (pv 2) pa_nil)) pa_nil)) pa_nil))))))
      (pss_cons (ps_set (i := 5) sc_w_right.nd rfl (Or.inl rfl) (pe_lst (pa_cons (pe_dn D_w_next (hr.mono (by decide)) rfl (pa_cons (pv 1) pa_nil)) (pa_cons (pe_dn D_w_next (hr.mono (by decide)) rfl (pa_cons (pv 2) pa_nil)) (pa_cons (pe_dn D_w_ahead (hr.mono (by decide)) rfl (pa_cons (pv 1) pa_nil)) (pa_cons (pe_dn D_w_ahead (hr.mono (by decide)) rfl (pa_cons (pv 2) pa_nil)) pa_nil))))))
      (pss_cons (ps_set (i := 4) sc_w_right.nd rfl (Or.inl rfl) (pe_op op_cat (pv 4) (pe_lst (pa_cons (pe_dn D_steps_on (hr.mono (by decide)) rfl (pa_cons (pv 1) (pa_cons (pv 3) pa_nil))) (pa_cons (pe_dn D_steps_on (hr.mono (by decide)) rfl (pa_cons (pe_callTy call_list_of (by rfl) B.list (by decide +kernel) (pa_cons (pv 2) pa_nil)) (pa_cons (pv 3) pa_nil))) (pa_cons (pe_dn D_steps_between (hr.mono (by decide)) rfl (pa_cons (pv 1) (pa_cons (pv 2) pa_nil))) (pa_cons (pe_dn D_steps_between (hr.mono (by decide)) rfl (pa_cons (pe_callTy call_list_of (by rfl) B.list (by decide +kernel) (pa_cons (pv 2) pa_nil)) (pa_cons (pv 1) pa_nil))) pa_nil)))))))
      (pss_cons (ps_set (i := 5) sc_w_right.nd rfl (Or.inl rfl) (pe_op op_cat (pv 5) (pe_lst (pa_cons (pe_dn D_w_walk (hr.mono (by decide)) rfl (pa_cons (pv 1) (pa_cons (pv 3) pa_nil))) (pa_cons (pe_dn D_w_walk (hr.mono (by decide)) rfl (pa_cons (pv 2) (pa_cons (pv 3) pa_nil))) (pa_cons (pe_dn D_w_between (hr.mono (by decide)) rfl (pa_cons (pv 1) (pa_cons (pv 2) pa_nil))) (pa_cons (pe_dn D_w_between (hr.mono (by decide)) rfl (pa_cons (pv 2) (pa_cons (pv 1) pa_nil))) pa_nil)))))))
      (pss_cons (ps_set (i := 6) sc_w_right.nd rfl (Or.inl rfl) (pe_op op_cat (pe_lc (own := [("_law_k", 7)]) rfl sc_w_right.nd (pi_range1 (by rfl) B.range (pa_cons pe_int pa_nil)) (blkOk_by (N := N_w_right) (sc := defScope s_w_right) (by decide +kernel)) (fun _ _ _ _ _ => (pg_name (i := 7) sc_w_right.nd rfl (Or.inl rfl))) (fun _ _ _ _ _ => (pts_one (pt_cmpR op_ne (pe_ix (ix_in (K := K)) (pv 1) (pv 7) (fun _ _ => rfl)) (pe_ix (ix_in (K := K)) (pv 2) (pv 7) (fun _ _ => rfl)) (nomark _)))) (fun _ _ _ _ _ => (pv 7))) (pe_lst (pa_cons pe_non pa_nil))))
      (pss_cons (ps_set (i := 8) sc_w_right.nd rfl (Or.inl rfl) (pe_op op_sub (pe_callTy call_int1 (by rfl) B.int (by decide +kernel) (pa_cons (pe_dn D_w_newer (hr.mono (by decide)) rfl (pa_cons (pv 2) (pa_cons (pv 1) pa_nil))) pa_nil)) (pe_callTy call_int1 (by rfl) B.int (by decide +kernel) (pa_cons (pe_dn D_w_newer (hr.mono (by decide)) rfl (pa_cons (pv 1) (pa_cons (pv 2) pa_nil))) pa_nil))))
      (pss_cons (ps_set (i := 4) sc_w_right.nd rfl (Or.inl rfl) (pe_op op_cat (pv 4) (pe_lst (pa_cons (pe_dn D_first_unlike (hr.mono (by decide)) rfl (pa_cons (pv 1) (pa_cons (pv 2) pa_nil))) (pa_cons (pe_dn D_first_unlike (hr.mono (by decide)) rfl (pa_cons (pe_callTy call_list_of (by rfl) B.list (by decide +kernel) (pa_cons (pv 2) pa_nil)) (pa_cons (pv 1) pa_nil))) (pa_cons (pe_dn D_compared (hr.mono (by decide)) rfl (pa_cons (pv 1) (pa_cons (pv 2) pa_nil))) (pa_cons (pe_dn D_compared (hr.mono (by decide)) rfl (pa_cons (pv 2) (pa_cons (pe_callTy call_list_of (by rfl) B.list (by decide +kernel) (pa_cons (pv 1) pa_nil)) pa_nil))) (pa_cons (pe_dn D_compared (hr.mono (by decide)) rfl (pa_cons (pv 1) (pa_cons (pe_callTy call_list_of (by rfl) B.list (by decide +kernel) (pa_cons (pv 1) pa_nil)) pa_nil))) pa_nil))))))))
      (pss_cons (ps_set (i := 5) sc_w_right.nd rfl (Or.inl rfl) (pe_op op_cat (pv 5) (pe_lst (pa_cons (pe_ix ix_seq (pv 6) pe_int (fun _ _ => rfl)) (pa_cons (pe_ix ix_seq (pv 6) pe_int (fun _ _ => rfl)) (pa_cons (pv 8) (pa_cons (pe_op op_sub pe_int (pv 8)) (pa_cons pe_int pa_nil))))))))
      (pss_cons (ps_set (i := 9) sc_w_right.nd rfl (Or.inl rfl) (pe_dn D_w_take (hr.mono (by decide)) rfl (pa_cons (pv 0) (pa_cons pe_int pa_nil))))
      (pss_cons (ps_set (i := 4) sc_w_right.nd rfl (Or.inl rfl) (pe_op op_cat (pv 4) (pe_lst (pa_cons (pe_dn D_next_release (hr.mono (by decide)) rfl (pa_cons (pv 1) (pa_cons (pv 9) pa_nil))) (pa_cons (pe_dn D_next_release (hr.mono (by decide)) rfl (pa_cons (pe_callTy call_list_of (by rfl) B.list (by decide +kernel) (pa_cons (pv 2) pa_nil)) (pa_cons (pv 9) pa_nil))) pa_nil)))))
      (pss_cons (ps_set (i := 5) sc_w_right.nd rfl (Or.inl rfl) (pe_op op_cat (pv 5) (pe_lst (pa_cons (pe_dn D_w_bumped (hr.mono (by decide)) rfl (pa_cons (pv 1) (pa_cons (pv 9) pa_nil))) (pa_cons (pe_dn D_w_bumped (hr.mono (by decide)) rfl (pa_cons (pv 2) (pa_cons (pv 9) pa_nil))) pa_nil)))))
      (pss_cons (ps_setLc (i := 10) rfl sc_w_right.nd rfl rfl (sw_true rfl rfl rfl (by decide +kernel)) (own := [("_law_lap", 11)]) (pi_range1 (by rfl) B.range (pa_cons (pe_dn D_w_take (hr.mono (by decide)) rfl (pa_cons (pv 0) (pa_cons pe_int pa_nil))) pa_nil)) (blkOk_by (N := N_w_right) (sc := defScope s_w_right) (by decide +kernel)) (fun _ _ _ _ _ => (pg_name (i := 11) sc_w_right.nd rfl (Or.inl rfl))) (fun _ _ _ _ _ => pts_nil) (fun _ _ _ _ _ => (pe_dn D_w_of (hr.mono (by decide)) rfl (pa_cons (pv 0) (pa_cons (pe_lst (pa_cons (pv 1) (pa_cons (pv 2) (pa_cons (pe_dn D_w_close (hr.mono (by decide)) rfl (pa_cons (pv 0) (pa_cons (pv 1) pa_nil))) (pa_cons (pe_dn D_w_close (hr.mono (by decide)) rfl (pa_cons (pv 0) (pa_cons (pv 2) pa_nil))) pa_nil))))) pa_nil)))))
      (pss_cons (ps_set (i := 12) sc_w_right.nd rfl (Or.inl rfl) (pe_dn D_w_sorted (hr.mono (by decide)) rfl (pa_cons (pv 10) pa_nil)))
      (pss_cons (ps_setLc (i := 13) rfl sc_w_right.nd rfl rfl (sw_true rfl rfl rfl (by decide +kernel)) (own := [("_law_own", 14)]) (pi_tup (pv 12)) (blkOk_by (N := N_w_right) (sc := defScope s_w_right) (by decide +kernel)) (fun _ _ _ _ _ => (pg_name (i := 14) sc_w_right.nd rfl (Or.inl rfl))) (fun _ _ _ _ _ => (pts_one (pt_cmpR op_eq (pe_ix (ix_in (K := K)) (pv 14) pe_int (fun _ _ => rfl)) pe_int (nomark _)))) (fun _ _ _ _ _ => (pv 14)))
      (pss_cons (ps_set (i := 4) sc_w_right.nd rfl (Or.inl rfl) (pe_op op_cat (pv 4) (pe_lst (pa_cons (pe_dn D_from_best (hr.mono (by decide)) rfl (pa_cons (pe_callTy call_tup (by rfl) B.tuple (by decide +kernel) (pa_cons (pv 10) pa_nil)) pa_nil)) (pa_cons (pe_dn D_from_best (hr.mono (by decide)) rfl (pa_cons (pe_dn D_w_lists (hr.mono (by decide)) rfl (pa_cons (pv 10) pa_nil)) pa_nil)) (pa_cons (pe_dn D_newest_of (hr.mono (by decide)) rfl (pa_cons (pe_callTy call_tup (by rfl) B.tuple (by decide +kernel) (pa_cons (pv 10) pa_nil)) (pa_cons pe_bl pa_nil))) (pa_cons (pe_dn D_newest_of (hr.mono (by decide)) rfl (pa_cons (pv 10) (pa_cons pe_bl pa_nil))) pa_nil)))))))
      (pss_one (ps_ret (pe_dn D_w_same (hr.mono (by decide)) rfl (pa_cons (pv 4) (pa_cons (pe_op op_cat (pv 5) (pe_lst (pa_cons (pv 12) (pa_cons (pv 12) (pa_cons (pe_ix ix_seq (pe_op op_cat (pe_callTy call_list_of (by rfl) B.list (by decide +kernel) (pa_cons (pv 12) pa_nil)) (pe_lst (pa_cons pe_non pa_nil))) pe_int (fun _ _ => rfl)) (pa_cons (pe_ix ix_seq (pe_op op_cat (pv 13) (pe_lst (pa_cons pe_non pa_nil))) pe_int (fun _ _ => rfl)) pa_nil)))))) pa_nil)))))))))))))))))))))), ?_⟩
    refine ⟨_, rfl, t, 0, rfl, tin, by decide, fun H1 r1 x sx1 tin1 h1 lo => ?_⟩
    have ox := lo.ok
    refine ⟨_, rfl, _, rfl, t, _, r1, x, rfl, tin1, by decide, h1, ox, fun H2 r2 y sx2 tin2 h2 cl => ?_⟩
    refine ⟨_, rfl, t, _, 121, rfl, tin2, by decide, by decide, by decide, fun H3 m sx3 tin3 m0 m1 => ⟨_, _, rfl, rfl, fewL (by show 2 ≤ 1000; decide), fun T nT => ⟨T, _, rfl, SqT.of upd_same, rfl, _, _, rfl, _, _, rfl, rfl, ?_⟩⟩⟩
    have oy : y.Ok := cl.ok
    have near : Ver.Near x y := cl.near ox
    obtain ⟨ya, yb, yc⟩ := cl.bound (k := 70) lo.a1 lo.b1 lo.c1
    have sx := (((sx1.trans sx2).trans sx3).trans (sn (o := .tup [r2, .int (m - 60)]) nT).sx)
    have tin := tin3.same (sn (o := .tup [r2, .int (m - 60)]) nT)
    have a1 : DR (upd H3 T (.tup [r2, .int (m - 60)])) r1 (dV x) := ((((h1.keep (tin1.t0 sx2)).keep (tin2.t0 sx3)).mono (sn nT))).dr
    have a2 : DR (upd H3 T (.tup [r2, .int (m - 60)])) r2 (dV y) := ((h2.keep (tin2.t0 sx3)).mono (sn nT)).dr
    generalize upd H3 T (.tup [r2, .int (m - 60)]) = H4 at sx tin a1 a2
    have am : ∀ H : Hp, DR H (.int (m - 60)) (.int (m - 60)) := fun H => .int _
    refine restate_st (σ2 := [some (.ref t), some r1, some r2, some (.int (m - 60)), none, none, none, none, none, none, none, none, none, none, none]) rfl ?_
    -- what the module and the law make
    refine asg_ev (EvE.lst (EvA.cons (EvE.p1 (x := x) (EvE.var a1) (.inl rfl) ox) (EvA.cons (EvE.p1 (x := y) (EvE.listV (EvE.var a2)) (.inr rfl) oy) (EvA.cons (EvE.p1 (x := x) (EvE.var a1) (.inl rfl) ox) (EvA.cons (EvE.p1 (x := y) (EvE.listV (EvE.var a2)) (.inr rfl) oy) EvA.nil))))) fun r5 H5 s5 g => ?_
    refine restate_st (σ2 := [some (.ref t), some r1, some r2, some (.int (m - 60)), some r5, none, none, none, none, none, none, none, none, none, none]) rfl ?_
    have a1 := a1.mono s5
    have a2 := a2.mono s5
    have sx := sx.trans s5.sx
    have tin := tin.same s5
    refine asg_ev (EvE.lst (EvA.cons (EvE.t1 (x := x) (EvE.var a1) ox) (EvA.cons (EvE.t1 (x := y) (EvE.var a2) oy) (EvA.cons (EvE.t1 (x := x) (EvE.var a1) ox) (EvA.cons (EvE.t1 (x := y) (EvE.var a2) oy) EvA.nil))))) fun r6 H6 s6 d => ?_
    refine restate_st (σ2 := [some (.ref t), some r1, some r2, some (.int (m - 60)), some r5, some r6, none, none, none, none, none, none, none, none, none]) rfl ?_
    have a1 := a1.mono s6
    have a2 := a2.mono s6
    have sx := sx.trans s6.sx
    have tin := tin.same s6
    have g := g.mono s6
    refine asg_ev (EvE.cat (EvE.var g) (EvE.lst (EvA.cons (EvE.p1i (x := x) (EvE.var a1) (EvE.var (am _)) (.inl rfl) ox) (EvA.cons (EvE.p1i (x := y) (EvE.listV (EvE.var a2)) (EvE.var (am _)) (.inr rfl) oy) (EvA.cons (EvE.p2 (x := x) (y := y) (EvE.var a1) (EvE.var a2) (.inl rfl) (.inl rfl) ox oy) (EvA.cons (EvE.p2 (x := y) (y := x) (EvE.listV (EvE.var a2)) (EvE.var a1) (.inr rfl) (.inl rfl) oy ox) EvA.nil)))))) fun r7 H7 s7 g => ?_
    refine restate_st (σ2 := [some (.ref t), some r1, some r2, some (.int (m - 60)), some r7, some r6, none, none, none, none, none, none, none, none, none]) rfl ?_
    have a1 := a1.mono s7
    have a2 := a2.mono s7
    have sx := sx.trans s7.sx
    have tin := tin.same s7
    have d := d.mono s7
    refine asg_ev (EvE.cat (EvE.var d) (EvE.lst (EvA.cons (EvE.walk (x := x) (EvE.var a1) (EvE.var (am _)) ox (by omega) (by omega)) (EvA.cons (EvE.walk (x := y) (EvE.var a2) (EvE.var (am _)) oy (by omega) (by omega)) (EvA.cons (EvE.btw (x := x) (y := y) (EvE.var a1) (EvE.var a2) ox oy near) (EvA.cons (EvE.btw (x := y) (y := x) (EvE.var a2) (EvE.var a1) oy ox near.symm) EvA.nil)))))) fun r8 H8 s8 d => ?_
    refine restate_st (σ2 := [some (.ref t), some r1, some r2, some (.int (m - 60)), some r7, some r8, none, none, none, none, none, none, none, none, none]) rfl ?_
    have a1 := a1.mono s8
    have a2 := a2.mono s8
    have sx := sx.trans s8.sx
    have tin := tin.same s8
    have g := g.mono s8
    refine asg_ev (EvE.cat (EvE.unl (K := K) a1 a2 (fun _ => rfl) (fun _ => rfl) (fun _ => rfl) (fun _ => rfl)) (EvE.lst (EvA.cons EvE.non EvA.nil)) (by rw [List.length_map]; exact Nat.ble_eq_true_of_le (Nat.le_trans (Nat.add_le_add_right (unl_len x y 4) _) (by show 4 + 1 ≤ 1000; decide)))) fun r9 H9 s9 u => ?_
    refine restate_st (σ2 := [some (.ref t), some r1, some r2, some (.int (m - 60)), some r7, some r8, some r9, none, none, none, none, none, none, none, none]) rfl ?_
    have a1 := a1.mono s9
    have a2 := a2.mono s9
    have sx := sx.trans s9.sx
    have tin := tin.same s9
    have g := g.mono s9
    have d := d.mono s9
    obtain ⟨ur, eu⟩ := unl_head x y
    refine asg_ev (EvE.sub (EvE.intB (EvE.newer (x := y) (y := x) (EvE.var a2) (EvE.var a1))) (EvE.intB (EvE.newer (x := x) (y := y) (EvE.var a1) (EvE.var a2)))) fun r10 H10 s10 sg => ?_
    refine restate_st (σ2 := [some (.ref t), some r1, some r2, some (.int (m - 60)), some r7, some r8, some r9, none, some r10, none, none, none, none, none, none]) rfl ?_
    have a1 := a1.mono s10
    have a2 := a2.mono s10
    have sx := sx.trans s10.sx
    have tin := tin.same s10
    have g := g.mono s10
    have d := d.mono s10
    have u := u.mono s10
    have sg : DR H10 r10 (.int (Ver.cmp x y)) := sg
    refine asg_ev (EvE.cat (EvE.var g) (EvE.lst (EvA.cons (EvE.p2 (x := x) (y := y) (EvE.var a1) (EvE.var a2) (.inl rfl) (.inl rfl) ox oy) (EvA.cons (EvE.p2 (x := y) (y := x) (EvE.listV (EvE.var a2)) (EvE.var a1) (.inr rfl) (.inl rfl) oy ox)
      (EvA.cons (EvE.p2 (x := x) (y := y) (EvE.var a1) (EvE.var a2) (.inl rfl) (.inl rfl) ox oy) (EvA.cons (EvE.p2 (x := y) (y := x) (EvE.var a2) (EvE.listV (EvE.var a1)) (.inl rfl) (.inr rfl) oy ox) (EvA.cons (EvE.p2 (x := x) (y := x) (EvE.var a1) (EvE.listV (EvE.var a1)) (.inl rfl) (.inr rfl) ox ox) EvA.nil))))))) fun r11 H11 s11 g => ?_
    refine restate_st (σ2 := [some (.ref t), some r1, some r2, some (.int (m - 60)), some r11, some r8, some r9, none, some r10, none, none, none, none, none, none]) rfl ?_
    have a1 := a1.mono s11
    have a2 := a2.mono s11
    have sx := sx.trans s11.sx
    have tin := tin.same s11
    have d := d.mono s11
    have u := u.mono s11
    have sg := sg.mono s11
    refine asg_ev (EvE.cat (EvE.var d) (EvE.lst (EvA.cons (EvE.ix0 (EvE.var u) eu) (EvA.cons (EvE.ix0 (EvE.var u) eu) (EvA.cons (EvE.var sg) (EvA.cons (EvE.sub EvE.int (EvE.var sg)) (EvA.cons EvE.int EvA.nil))))))) fun r12 H12 s12 d => ?_
    refine restate_st (σ2 := [some (.ref t), some r1, some r2, some (.int (m - 60)), some r11, some r12, some r9, none, some r10, none, none, none, none, none, none]) rfl ?_
    have a1 := a1.mono s12
    have a2 := a2.mono s12
    have sx := sx.trans s12.sx
    have tin := tin.same s12
    have g := g.mono s12
    refine ⟨_, rfl, t, _, 3, rfl, tin, by decide, by decide, by decide, fun H13 p sx13 tin13 p0 p1 => ?_⟩
    obtain ⟨pn, rfl⟩ : ∃ pn : Nat, p = (pn : Int) := ⟨p.toNat, by omega⟩
    have hp : pn < 3 := by omega
    have ap : ∀ H : Hp, DR H (.int (pn : Int)) (.int (pn : Int)) := fun H => .int _
    refine restate_g (σ2 := [some (.ref t), some r1, some r2, some (.int (m - 60)), some r11, some r12, some r9, none, some r10, some (.int (pn : Int)), none, none, none, none, none]) rfl ?_
    have g := g.sxl tin (by show 4 + 4 + 5 ≠ 3; decide) (by simp only [List.cons_append, List.nil_append, noLs, noL_dV, noL_dO, noL_dI, noL_dN, noL, Bool.and_self]) sx13
    have d := d.sxl tin (by show 4 + 4 + 5 ≠ 3; decide) (by simp only [List.cons_append, List.nil_append, noLs, noL_dV, noL_dO, noL_dI, noL_dN, noL, Bool.and_self]) sx13
    have a1 := a1.keep (tin.t0 sx13) _ (noL_dV x)
    have a2 := a2.keep (tin.t0 sx13) _ (noL_dV y)
    have sx := sx.trans sx13
    have tin := tin13
    refine asg_ev (EvE.cat (EvE.var g) (EvE.lst (EvA.cons (EvE.rel (x := x) (EvE.var a1) (EvE.var (ap _)) (.inl rfl) hp) (EvA.cons (EvE.rel (x := y) (EvE.listV (EvE.var a2)) (EvE.var (ap _)) (.inr rfl) hp) EvA.nil)))) fun r14 H14 s14 g => ?_
    refine restate_st (σ2 := [some (.ref t), some r1, some r2, some (.int (m - 60)), some r14, some r12, some r9, none, some r10, some (.int (pn : Int)), none, none, none, none, none]) rfl ?_
    have a1 := a1.mono s14
    have a2 := a2.mono s14
    have sx := sx.trans s14.sx
    have tin := tin.same s14
    have d := d.mono s14
    refine asg_ev (EvE.cat (EvE.var d) (EvE.lst (EvA.cons (EvE.bump (x := x) (EvE.var a1) (EvE.var (ap _)) hp) (EvA.cons (EvE.bump (x := y) (EvE.var a2) (EvE.var (ap _)) hp) EvA.nil)))) fun r15 H15 s15 d => ?_
    refine restate_st (σ2 := [some (.ref t), some r1, some r2, some (.int (m - 60)), some r14, some r15, some r9, none, some r10, some (.int (pn : Int)), none, none, none, none, none]) rfl ?_
    have a1 := a1.mono s15
    have a2 := a2.mono s15
    have sx := sx.trans s15.sx
    have tin := tin.same s15
    have g := g.mono s15
    -- the lot
    refine ⟨_, rfl, t, _, 9, rfl, tin, by decide, by decide, by decide, fun H16 k sx16 tin16 k0 k1 => rd_nil ⟨_, rfl, by omega, by omega, fun D nD => ?_⟩⟩
    have g := g.sxl tin (by show 4 + 4 + 5 + 2 ≠ 3; decide) (by simp only [List.cons_append, List.nil_append, noLs, noL_dV, noL_dO, noL_dI, noL_dN, noL, Bool.and_self]) sx16
    have d := d.sxl tin (by show 4 + 4 + 5 + 2 ≠ 3; decide) (by simp only [List.cons_append, List.nil_append, noLs, noL_dV, noL_dO, noL_dI, noL_dN, noL, Bool.and_self]) sx16
    have a1 := tupAt_of (a1.keep (tin.t0 sx16) _ (noL_dV x))
    have a2 := tupAt_of (a2.keep (tin.t0 sx16) _ (noL_dV y))
    have sx := sx.trans sx16
    have tin := tin16
    have neD : D ≠ t := tin.ne nD
    refine lc_range (lo := 0) (n := k.toNat) (fun i H' => Sx t H16 H' ∧ Tin t (9 + 1 + 1 + 1 + 11 * i) H' ∧ ∃ acc lot, H' D = some (.lst acc) ∧ DRs H' acc (List.map dV lot) ∧ lot.length = i ∧ ∀ v ∈ lot, v.Sm) ?_ ?_ ?_
    · exact ⟨sxadd (Sx.refl t H16) nD, (tin.put neD).mono (by omega), [], [], upd_same, .nil, rfl, fun v h => by cases h⟩
    · rintro i H' hi ⟨sxi, tini, acc, lot, hD, da, ll, sm⟩
      have b1 := a1.keep (tin.t0 sxi)
      have b2 := a2.keep (tin.t0 sxi)
      refine ⟨rfl, rd_yes (iteT ⟨_, rfl, _, rfl, _, rfl, _, rfl, _, rfl, t, _, r1, x, rfl, tini, by omega, b1, ox, fun H17 c1 z1 sx17 tin17 hz1 cl1 => ?_⟩)⟩
      have b2 := b2.keep (tini.t0 sx17)
      have b1 := b1.keep (tini.t0 sx17)
      refine ⟨_, rfl, _, rfl, t, _, r2, y, rfl, tin17, by omega, b2, oy, fun H18 c2 z2 sx18 tin18 hz2 cl2 => ?_⟩
      have b2 := b2.keep (tin17.t0 sx18)
      have b1 := b1.keep (tin17.t0 sx18)
      have hz1 := hz1.keep (tin17.t0 sx18)
      refine ⟨fewL (by show 4 ≤ 1000; decide), fun L nL => ⟨t, _, L, _, rfl, tin18.same (sn nL), by omega, tin18.ne nL, upd_same, by simp, by show 4 ≤ 1000; decide, fun H19 v sx19 tin19 mem => ?_⟩⟩
      have sL : Same H18 (upd H18 L (.lst [r1, r2, c1, c2])) := sn nL
      have st : St0 H18 H19 := fun b xs hb => (tin18.same sL).t0 sx19 _ _ (sL _ _ hb)
      obtain ⟨z1a, z1b, z1c⟩ := cl1.bound (k := 70) lo.a1 lo.b1 lo.c1
      obtain ⟨z2a, z2b, z2c⟩ := cl2.bound ya yb yc
      obtain ⟨z, tz, smz⟩ : ∃ z, TupAt H19 v z ∧ z.Sm := by
        simp only [List.mem_cons, List.not_mem_nil, or_false] at mem
        rcases mem with rfl | rfl | rfl | rfl
        · exact ⟨x, b1.keep st, lo.sm⟩
        · exact ⟨y, b2.keep st, oy, by omega, by omega, by omega⟩
        · exact ⟨z1, hz1.keep st, cl1.ok, by omega, by omega, by omega⟩
        · exact ⟨z2, hz2.keep st, cl2.ok, by omega, by omega, by omega⟩
      have sxall : Sx t H' H19 := ((sx17.trans sx18).trans sL.sx).trans sx19
      have hD19 : H19 D = some (.lst acc) := sxall _ _ neD hD
      have da := da.keep (tini.t0 sxall) _ (noLs_vers lot)
      have stD := st0_lst (ys := acc ++ [v]) hD19
      refine ⟨acc, hD19, small1000 ?_, sxadd (sxi.trans sxall) nD, (tin19.put neD).mono (by omega), acc ++ [v], lot ++ [z], upd_same, ?_, by rw [List.length_append, ll]; rfl, fun u hu => ?_⟩
      · rw [drs_vers lot da, ll]
        omega
      · rw [List.map_append]
        exact DRs.app (da.keep stD _ (noLs_vers lot)) (.cons (tz.keep stD).dr .nil)
      · rcases List.mem_append.mp hu with hu | hu
        · exact sm u hu
        · rw [List.mem_singleton.mp hu]; exact smz
    · rintro H17 ⟨sx17, tin17, acc, lot, hD, da, ll, sm⟩
      have g := g.sxl tin (by show 4 + 4 + 5 + 2 ≠ 3; decide) (by simp only [List.cons_append, List.nil_append, noLs, noL_dV, noL_dO, noL_dI, noL_dN, noL, Bool.and_self]) sx17
      have d := d.sxl tin (by show 4 + 4 + 5 + 2 ≠ 3; decide) (by simp only [List.cons_append, List.nil_append, noLs, noL_dV, noL_dO, noL_dI, noL_dN, noL, Bool.and_self]) sx17
      have sx := sx.trans sx17
      have lok : LotOk lot := ⟨by omega, sm⟩
      have lt : DR H17 (.ref D) (.list (lot.map dV)) := .lst hD da
      refine ⟨_, rfl, D, acc, lot, rfl, hD, da, lok, fun r18 H18 line s18 L dl => ?_⟩
      refine restate_g (σ2 := [some (.ref t), some r1, some r2, some (.int (m - 60)), some r14, some r15, some r9, none, some r10, some (.int (pn : Int)), some (.ref D), none, some r18, none, none]) rfl ?_
      have llen : line.length < 64 := Nat.lt_of_le_of_lt (sub_len (Ver.Line.nodup L.1) fun v h => (L.2 v).mp h) lok.few
      have g := g.mono s18
      have d := d.mono s18
      have lt := lt.mono s18
      have sx := sx.trans s18.sx
      refine asg_ev (EvE.rels2 (K := K) (line := line) (EvE.var dl) (by omega) (fun _ => rfl) (fun _ => rfl)) fun r19 H19 s19 rl => ?_
      refine restate_st (σ2 := [some (.ref t), some r1, some r2, some (.int (m - 60)), some r14, some r15, some r9, none, some r10, some (.int (pn : Int)), some (.ref D), none, some r18, some r19, none]) rfl ?_
      have g := g.mono s19
      have d := d.mono s19
      have lt := lt.mono s19
      have dl := dl.mono s19
      have sx := sx.trans s19.sx
      refine asg_ev (EvE.cat (EvE.var g) (EvE.lst (EvA.cons (EvE.best (EvE.tupOf (EvE.var lt)) (ld_tup lok.few) lok L) (EvA.cons (EvE.best_lists (EvE.var lt) lok L) (EvA.cons (EvE.newest (EvE.tupOf (EvE.var lt)) EvE.bl (ld_tup lok.few) lok L) (EvA.cons (EvE.newest (EvE.var lt) EvE.bl (ld_lst lok.few) lok L) EvA.nil)))))) fun r20 H20 s20 g => ?_
      refine restate_st (σ2 := [some (.ref t), some r1, some r2, some (.int (m - 60)), some r20, some r15, some r9, none, some r10, some (.int (pn : Int)), some (.ref D), none, some r18, some r19, none]) rfl ?_
      have d := d.mono s20
      have dl := dl.mono s20
      have rl := rl.mono s20
      have sx := sx.trans s20.sx
      obtain ⟨e1, h1⟩ := head_dO line
      obtain ⟨e2, h2⟩ := head_dO (line.filter fun v => decide (v.d = 0))
      refine ret_same (EvE.var g) (EvE.cat (EvE.var d) (EvE.lst (EvA.cons (EvE.var dl) (EvA.cons (EvE.var dl) (EvA.cons (EvE.ix0 (EvE.cat (EvE.listOf (EvE.var dl) (.inl rfl)) (EvE.lst (EvA.cons EvE.non EvA.nil)) (len1 (by omega))) h1) (EvA.cons (EvE.ix0 (EvE.cat (EvE.var rl) (EvE.lst (EvA.cons EvE.non EvA.nil)) (len1 (Nat.lt_of_le_of_lt (List.length_filter_le _ _) (by omega)))) h2) EvA.nil)))))) ?_ ?_ ?_ ?_
      · have hf := Ver.filter_same (line := line) fun v h => (lok.sm v ((L.2 v).mp h)).ok
        simp only [Ver.comp_eq, Ver.unlike_swap x y, Ver.cmp_swap x y, Ver.cmp_self, hf]
        rfl
      · have ol := okS_line (line := line) (by omega)
        show (decide (4 + 4 + 5 + 2 + 4 ≤ 1000) && okSs _) = true
        simp only [List.cons_append, List.nil_append, okSs, okS_dO, okS_dI, okS_dN, ol, okS, Bool.and_self, Bool.and_true, Bool.true_and]
        rw [okSs_dV, List.length_map, decide_eq_true (show line.length ≤ 1000 by omega)]
        rfl
      · refine ⟨?_, by decide⟩
        refine Nat.lt_of_le_of_lt (Nat.add_le_add_right (?_ : PyData.depthAll _ ≤ 2) 1) (by decide)
        simp only [List.cons_append, List.nil_append, PyData.depthAll, Nat.max_le]
        have v1 : ∀ v : Ver, (dV v).depth ≤ 2 := fun v => by rw [dep_dV]; decide
        have o1 : ∀ o : Option Ver, (dO o).depth ≤ 2 := fun o => Nat.le_trans (dep_dO o) (by decide)
        have i1 : ∀ o : Option Int, (dI o).depth ≤ 2 := fun o => by rw [dep_dI]; decide
        have n1 : ∀ o : Option Nat, (dN o).depth ≤ 2 := fun o => by rw [dep_dN]; decide
        have l1 := dep_line line
        repeat' apply And.intro
        all_goals first | exact v1 _ | exact o1 _ | exact i1 _ | exact n1 _ | exact l1 | exact Nat.zero_le _
      · intro H21 s21
        exact q _ (sx.trans s21.sx)
end

section
variable {P : Program} {w : World} {K : PySem.W.Frag} {mg : Str → Option Value} {base : Heap}
def spLaw (K : PySem.W.Frag) : Sp := fun vs H Q _ => ∃ (a : Addr) (ns : List Int), vs = [.ref a] ∧ SqL K H a (ns.map V.int) ∧ ns.length ≤ 63 ∧ ∀ H', Q (.bl true) H'
theorem ok_law {f : Addr} {fd : FuncData} (B : Bi mg) (F : Fun K "law" "law" s_law f fd)
    (D_w_by_hand_right : Dn P w K mg base 6 "_law_by_hand_right" P_w_by_hand_right spTrue)
    (D_w_right : Dn P w K mg base 6 "_law_right" P_w_right spRight)
    (D_w_cells : Dn P w K mg base 1 "_law_cells" P_w_cells (spCells K))
    (D_w_box : Dn P w K mg base 1 "_law_box" P_w_box spBox) :
    FnOk P w K mg base CX0 7 f fd P_law (spLaw K) :=
  F.ok sc_law (fun vs H Q E h => by obtain ⟨_, _, rfl, _⟩ := h; rfl) fun cdv A outer s H vs Q E hr h => by
    obtain ⟨a, ns, rfl, ha, hl, q⟩ := h
    refine ⟨_, (pss_cons (ps_if (pt_not (pt_val (pe_dn0 D_w_by_hand_right (hr.mono (by decide)) rfl))) (pss_one (ps_ret pe_bl)) pss_nil)
      (pss_cons (ps_set (i := 1) sc_law.nd rfl (Or.inr rfl) (pe_dn D_w_cells (hr.mono (by decide)) rfl (pa_cons (pv 0) (pa_cons pe_int pa_nil))))
      (pss_one (ps_ret (pe_callB (cr_all rfl) (by rfl) B.all (by decide +kernel) (pa_cons (pe_lc (own := [("_law_k", 2)]) rfl sc_law.nd (pi_range1 (by rfl) B.range (pa_cons (pe_callB call_len_seq (by rfl) B.len (by decide +kernel) (pa_cons (pv 1) pa_nil)) pa_nil)) (blkOk_by (N := N_law) (sc := defScope s_law) (by decide +kernel)) (fun _ _ _ _ _ => (pg_name (i := 2) sc_law.nd rfl (Or.inl rfl))) (fun _ _ _ _ _ => pts_nil) (fun _ _ _ _ _ => (pe_dn D_w_right (hr.mono (by decide)) rfl (pa_cons (pe_dn D_w_box (hr.mono (by decide)) rfl (pa_cons (pv 1) (pa_cons (pv 2) pa_nil))) pa_nil)))) pa_nil)))))), ?_⟩
    refine ⟨rfl, fun H1 s1 => ⟨true, rfl, iteF ?_⟩⟩
    refine ⟨_, rfl, a, ns, rfl, s1.seq ha, hl, fun r H2 ms s2 hr2 m0 m2 => ?_⟩
    have lm : (ms.map V.int).length = ms.length := List.length_map ..
    refine ⟨_, rfl, rd_nil ⟨r, _, rfl, .inl (SqL.of hr2), rd_nil ⟨_, rfl, by omega, by omega, fun D nD => lc_range (lo := 0) (n := (ms.map V.int).length) (fun i H' => H' r = some (.lst (ms.map V.int)) ∧ H' D = some (.lst ((List.replicate i true).map V.bl))) ?_ ?_ ?_⟩⟩⟩
    · exact ⟨sn nD _ _ hr2, upd_same⟩
    · rintro i H' hi ⟨hr', hD⟩
      rw [Int.zero_add]
      rw [lm] at hi
      refine ⟨rfl, rd_yes (iteT ⟨_, rfl, _, rfl, r, ms, i, rfl, hr', hi, m2, fun b H3 s3 nb tin => ⟨b, rfl, tin, fun H4 sx => ?_⟩⟩)⟩
      have hr4 := sx _ _ (ne_of_none hr' nb) (s3 _ _ hr')
      have hD4 := sx _ _ (ne_of_none hD nb) (s3 _ _ hD)
      have ne : r ≠ D := ne_of_none hr2 nD
      refine ⟨_, hD4, small1000 (by rw [List.length_map, List.length_replicate]; omega), ?_, ?_⟩
      · rw [upd_ne ne]
        exact hr4
      · rw [upd_same, List.replicate_succ', List.map_append]
        rfl
    · rintro H' ⟨hr', hD⟩
      exact rd_nil ⟨D, List.replicate (ms.map V.int).length true, rfl, SqL.of hD, by rw [all_trues]; exact q _⟩
end

theorem de_mk {K : PySem.W.Frag} {h : Heap} {mg : Str → Option Value} {x : Str} {st : Stmt} {ps : List Str} {f : Addr} {oc : Value} {od an : Option Addr} {sl : Array (Option Value)} {kV dc pm cd ct : Value} (X : K.In h) (G : h.Ns mainGlobals mg)
    (a : PySem.W.nsIn K mainGlobals x = some (some (.ref f))) (l : K.lookup f = some ⟨oc, od, .func (PySem.W.fnOf x x (defArgs st) (defBody st) (defScope st) .none kV dc pm an cd ct), sl⟩) (c : PySem.W.codeIn K cd x = true) (k : PySem.W.keepIn K (.ref f) = true)
    (b : ∀ (kV dc pm : Value) (an : Option Addr) (cd ct : Value) (us : List Value), us.length = ps.length → bindArgs (PySem.W.fnOf x x (defArgs st) (defBody st) (defScope st) .none kV dc pm an cd ct) ⟨us, []⟩ = pure (ps.zip us)) : De K mg x st ps :=
  ⟨_, _, fun_mk l c k, PySem.W.mg_of X G a, (fun_mk l c k).binds b⟩
theorem Dn.dk {P : Program} {w : World} {K : PySem.W.Frag} {mg : Str → Option Value} {base : Heap} {k : Nat} {x : Str} {ps ks : List Str} {sp : Sp} {g : {α : Type} → List α → List α} {f : Addr} {fd : FuncData} (D : Dn P w K mg base k x ps sp)
    (hm : mg x = some (.ref f)) (l : Lk K f fd) (hb : ∀ (s : Shared) (ws : List Value), ws.length = ks.length → BindsTo s fd ⟨[], ks.zip ws⟩ (ps.zip (g ws))) (rel : ∀ {zs : List V} {ws : List Value}, Vals zs ws → Vals (g zs) (g ws)) : Dk P w K mg base k x ps ks g sp := by
  obtain ⟨f2, fd2, F, hm2, hk, _, l2⟩ := D.ex
  have e : f2 = f := by
    rw [hm] at hm2
    cases hm2
    rfl
  subst e
  obtain ⟨_, _, _, l⟩ := l
  obtain ⟨_, _, _, l2⟩ := l2
  rw [l] at l2
  cases l2
  exact ⟨⟨_, _, F, hm, hk, hb⟩, rel⟩
theorem vals_same {zs : List V} {ws : List Value} (h : Vals zs ws) : Vals (gSame zs) (gSame ws) := h
theorem vals_back : ∀ {zs : List V} {ws : List Value}, Vals zs ws → Vals (gBack zs) (gBack ws)
  | _, _, .nil => .nil
  | _, _, .cons h t => by
    have := (vals_back t).append (.cons h .nil)
    unfold gBack at this ⊢
    rw [List.reverse_cons, List.reverse_cons]
    exact this
section
variable {P : Program} {w : World} {K : PySem.W.Frag} {mg : Str → Option Value} {base : Heap}
theorem ok_all {f f_next_version f_steps_on f_newest_of : Addr} {fd fd_next_version fd_steps_on fd_newest_of : FuncData} (B : Bi mg) (F : Fun K "law" "law" s_law f fd)
    (E_tupled : De K mg "tupled" s_tupled P_tupled)
    (E_is_early : De K mg "is_early" s_is_early P_is_early)
    (E_first_unlike : De K mg "first_unlike" s_first_unlike P_first_unlike)
    (E_compared : De K mg "compared" s_compared P_compared)
    (E_rank_among : De K mg "rank_among" s_rank_among P_rank_among)
    (E_steps_on : De K mg "steps_on" s_steps_on P_steps_on)
    (E_next_version : De K mg "next_version" s_next_version P_next_version)
    (E_version_ahead : De K mg "version_ahead" s_version_ahead P_version_ahead)
    (E_steps_between : De K mg "steps_between" s_steps_between P_steps_between)
    (E_next_release : De K mg "next_release" s_next_release P_next_release)
    (E_from_best : De K mg "from_best" s_from_best P_from_best)
    (E_newest_of : De K mg "newest_of" s_newest_of P_newest_of)
    (E_w_box : De K mg "_law_box" s_w_box P_w_box)
    (E_w_take : De K mg "_law_take" s_w_take P_w_take)
    (E_w_cells : De K mg "_law_cells" s_w_cells P_w_cells)
    (E_w_of : De K mg "_law_of" s_w_of P_w_of)
    (E_w_lists : De K mg "_law_lists" s_w_lists P_w_lists)
    (E_w_same : De K mg "_law_same" s_w_same P_w_same)
    (E_w_is_number : De K mg "_law_is_number" s_w_is_number P_w_is_number)
    (E_w_next : De K mg "_law_next" s_w_next P_w_next)
    (E_w_is_version : De K mg "_law_is_version" s_w_is_version P_w_is_version)
    (E_w_newer : De K mg "_law_newer" s_w_newer P_w_newer)
    (E_w_ahead : De K mg "_law_ahead" s_w_ahead P_w_ahead)
    (E_w_walk : De K mg "_law_walk" s_w_walk P_w_walk)
    (E_w_apart : De K mg "_law_apart" s_w_apart P_w_apart)
    (E_w_between : De K mg "_law_between" s_w_between P_w_between)
    (E_w_bumped : De K mg "_law_bumped" s_w_bumped P_w_bumped)
    (E_w_sorted : De K mg "_law_sorted" s_w_sorted P_w_sorted)
    (E_w_close : De K mg "_law_close" s_w_close P_w_close)
    (E_w_some : De K mg "_law_some" s_w_some P_w_some)
    (E_w_by_hand_right : De K mg "_law_by_hand_right" s_w_by_hand_right P_w_by_hand_right)
    (E_w_right : De K mg "_law_right" s_w_right P_w_right)
    (m_next_version : mg "next_version" = some (.ref f_next_version)) (l_next_version : Lk K f_next_version fd_next_version) (b_next_version : ∀ (s : Shared) (ws : List Value), ws.length = (["version"] : List Str).length → BindsTo s fd_next_version ⟨[], (["version"] : List Str).zip ws⟩ (P_next_version.zip (gSame ws)))
    (m_steps_on : mg "steps_on" = some (.ref f_steps_on)) (l_steps_on : Lk K f_steps_on fd_steps_on) (b_steps_on : ∀ (s : Shared) (ws : List Value), ws.length = (["many", "version"] : List Str).length → BindsTo s fd_steps_on ⟨[], (["many", "version"] : List Str).zip ws⟩ (P_steps_on.zip (gBack ws)))
    (m_newest_of : mg "newest_of" = some (.ref f_newest_of)) (l_newest_of : Lk K f_newest_of fd_newest_of) (b_newest_of : ∀ (s : Shared) (ws : List Value), ws.length = (["early", "versions"] : List Str).length → BindsTo s fd_newest_of ⟨[], (["early", "versions"] : List Str).zip ws⟩ (P_newest_of.zip (gBack ws))) :
    FnOk P w K mg base CX0 7 f fd P_law (spLaw K) := by
  have D_tupled := d_tupled (P := P) (w := w) (base := base) B E_tupled 3
  have D_is_early := d_is_early (P := P) (w := w) (base := base) E_is_early
  have D_first_unlike := d_first_unlike (P := P) (w := w) (base := base) B E_first_unlike
  have D_compared := d_compared (P := P) (w := w) (base := base) E_compared D_first_unlike
  have D_rank_among := d_rank_among (P := P) (w := w) (base := base) B E_rank_among
  have D_steps_on := d_steps_on (P := P) (w := w) (base := base) B E_steps_on D_rank_among
  have D_next_version := d_next_version (P := P) (w := w) (base := base) E_next_version D_steps_on
  have D_version_ahead := d_version_ahead (P := P) (w := w) (base := base) E_version_ahead D_steps_on
  have D_steps_between := d_steps_between (P := P) (w := w) (base := base) B E_steps_between D_rank_among
  have D_next_release := d_next_release (P := P) (w := w) (base := base) B E_next_release
  have D_from_best := d_from_best (P := P) (w := w) (base := base) B E_from_best D_tupled
  have D_newest_of := d_newest_of (P := P) (w := w) (base := base) B E_newest_of D_from_best D_is_early
  have D_box := d_box (P := P) (w := w) (base := base) B E_w_box
  have D_take := d_take (P := P) (w := w) (base := base) B E_w_take
  have D_cells := d_cells (P := P) (w := w) (base := base) B E_w_cells
  have D_of := d_of (P := P) (w := w) (base := base) B E_w_of D_take
  have D_lists_l := d_lists_l (P := P) (w := w) (base := base) B E_w_lists
  have D_same := d_same (P := P) (w := w) (base := base) B E_w_same 4
  have D_is_number := d_is_number (P := P) (w := w) (base := base) B E_w_is_number
  have D_next := d_next (P := P) (w := w) (base := base) B E_w_next
  have D_is_version := d_is_version (P := P) (w := w) (base := base) B E_w_is_version D_is_number
  have D_newer := d_newer (P := P) (w := w) (base := base) B E_w_newer
  have D_ahead := d_ahead (P := P) (w := w) (base := base) B E_w_ahead D_is_version D_next
  have D_walk := d_walk (P := P) (w := w) (base := base) B E_w_walk D_next D_ahead
  have D_apart := d_apart (P := P) (w := w) (base := base) B E_w_apart D_next
  have D_between := d_between (P := P) (w := w) (base := base) B E_w_between D_apart D_newer
  have D_bumped := d_bumped (P := P) (w := w) (base := base) B E_w_bumped D_newer
  have D_sorted := d_sorted (P := P) (w := w) (base := base) B E_w_sorted D_newer
  have D_close := d_close (P := P) (w := w) (base := base) B E_w_close D_take D_of
  have D_some := d_some (P := P) (w := w) (base := base) B E_w_some D_of
  have K_next_version : Dk P w K mg base 3 "next_version" P_next_version ["version"] gSame (p1 fun x => dV x.next) := D_next_version.dk m_next_version l_next_version b_next_version vals_same
  have K_steps_on : Dk P w K mg base 2 "steps_on" P_steps_on ["many", "version"] gBack (p1i fun x m => dO (x.on m)) := D_steps_on.dk m_steps_on l_steps_on b_steps_on vals_back
  have K_newest_of : Dk P w K mg base 5 "newest_of" P_newest_of ["early", "versions"] gBack spNewest := D_newest_of.dk m_newest_of l_newest_of b_newest_of vals_back
  have D_by_hand := d_by_hand (P := P) (w := w) (base := base) B E_w_by_hand_right D_next_version D_version_ahead D_steps_on D_steps_between D_compared D_first_unlike D_next_release D_from_best D_newest_of D_same K_next_version K_steps_on K_newest_of
  have D_right := d_right (P := P) (w := w) (base := base) B E_w_right D_next_version D_version_ahead D_steps_on D_steps_between D_compared D_first_unlike D_next_release D_from_best D_newest_of D_same D_some D_close D_take D_of D_next D_ahead D_walk D_between D_newer D_bumped D_sorted D_lists_l
  exact ok_law B F D_by_hand D_right D_cells D_box
end
theorem all_mk {l : PySem.W.OpenLaw} {w : World} {K : PySem.W.Frag} {h : Heap} {mg : Str → Option Value} {fa f0 f1 f2 f3 f4 f5 f6 f7 f8 f9 f10 f11 f12 f13 f14 f15 f16 f17 f18 f19 f20 f21 f22 f23 f24 f25 f26 f27 f28 f29 f30 f31 f32 : Addr} {te : Tok} {od0 an0 od1 an1 od2 an2 od3 an3 od4 an4 od5 an5 od6 an6 od7 an7 od8 an8 od9 an9 od10 an10 od11 an11 od12 an12 od13 an13 od14 an14 od15 an15 od16 an16 od17 an17 od18 an18 od19 an19 od20 an20 od21 an21 od22 an22 od23 an23 od24 an24 od25 an25 od26 an26 od27 an27 od28 an28 od29 an29 od30 an30 od31 an31 od32 an32 : Option Addr} {sl0 sl1 sl2 sl3 sl4 sl5 sl6 sl7 sl8 sl9 sl10 sl11 sl12 sl13 sl14 sl15 sl16 sl17 sl18 sl19 sl20 sl21 sl22 sl23 sl24 sl25 sl26 sl27 sl28 sl29 sl30 sl31 sl32 : Array (Option Value)} {oc0 kV0 dc0 pm0 cd0 ct0 oc1 kV1 dc1 pm1 cd1 ct1 oc2 kV2 dc2 pm2 cd2 ct2 oc3 kV3 dc3 pm3 cd3 ct3 oc4 kV4 dc4 pm4 cd4 ct4 oc5 kV5 dc5 pm5 cd5 ct5 oc6 kV6 dc6 pm6 cd6 ct6 oc7 kV7 dc7 pm7 cd7 ct7 oc8 kV8 dc8 pm8 cd8 ct8 oc9 kV9 dc9 pm9 cd9 ct9 oc10 kV10 dc10 pm10 cd10 ct10 oc11 kV11 dc11 pm11 cd11 ct11 oc12 kV12 dc12 pm12 cd12 ct12 oc13 kV13 dc13 pm13 cd13 ct13 oc14 kV14 dc14 pm14 cd14 ct14 oc15 kV15 dc15 pm15 cd15 ct15 oc16 kV16 dc16 pm16 cd16 ct16 oc17 kV17 dc17 pm17 cd17 ct17 oc18 kV18 dc18 pm18 cd18 ct18 oc19 kV19 dc19 pm19 cd19 ct19 oc20 kV20 dc20 pm20 cd20 ct20 oc21 kV21 dc21 pm21 cd21 ct21 oc22 kV22 dc22 pm22 cd22 ct22 oc23 kV23 dc23 pm23 cd23 ct23 oc24 kV24 dc24 pm24 cd24 ct24 oc25 kV25 dc25 pm25 cd25 ct25 oc26 kV26 dc26 pm26 cd26 ct26 oc27 kV27 dc27 pm27 cd27 ct27 oc28 kV28 dc28 pm28 cd28 ct28 oc29 kV29 dc29 pm29 cd29 ct29 oc30 kV30 dc30 pm30 cd30 ct30 oc31 kV31 dc31 pm31 cd31 ct31 oc32 kV32 dc32 pm32 cd32 ct32 : Value} (X : K.In h) (G : h.Ns mainGlobals mg) (hfa : mg "law" = some (.ref fa))
    (a0 : PySem.W.nsIn K mainGlobals "tupled" = some (some (.ref f0))) (l0 : K.lookup f0 = some ⟨oc0, od0, .func (PySem.W.fnOf "tupled" "tupled" (defArgs s_tupled) (defBody s_tupled) (defScope s_tupled) .none kV0 dc0 pm0 an0 cd0 ct0), sl0⟩) (c0 : PySem.W.codeIn K cd0 "tupled" = true) (k0 : PySem.W.keepIn K (.ref f0) = true)
    (a1 : PySem.W.nsIn K mainGlobals "is_early" = some (some (.ref f1))) (l1 : K.lookup f1 = some ⟨oc1, od1, .func (PySem.W.fnOf "is_early" "is_early" (defArgs s_is_early) (defBody s_is_early) (defScope s_is_early) .none kV1 dc1 pm1 an1 cd1 ct1), sl1⟩) (c1 : PySem.W.codeIn K cd1 "is_early" = true) (k1 : PySem.W.keepIn K (.ref f1) = true)
    (a2 : PySem.W.nsIn K mainGlobals "first_unlike" = some (some (.ref f2))) (l2 : K.lookup f2 = some ⟨oc2, od2, .func (PySem.W.fnOf "first_unlike" "first_unlike" (defArgs s_first_unlike) (defBody s_first_unlike) (defScope s_first_unlike) .none kV2 dc2 pm2 an2 cd2 ct2), sl2⟩) (c2 : PySem.W.codeIn K cd2 "first_unlike" = true) (k2 : PySem.W.keepIn K (.ref f2) = true)
    (a3 : PySem.W.nsIn K mainGlobals "compared" = some (some (.ref f3))) (l3 : K.lookup f3 = some ⟨oc3, od3, .func (PySem.W.fnOf "compared" "compared" (defArgs s_compared) (defBody s_compared) (defScope s_compared) .none kV3 dc3 pm3 an3 cd3 ct3), sl3⟩) (c3 : PySem.W.codeIn K cd3 "compared" = true) (k3 : PySem.W.keepIn K (.ref f3) = true)
    (a4 : PySem.W.nsIn K mainGlobals "rank_among" = some (some (.ref f4))) (l4 : K.lookup f4 = some ⟨oc4, od4, .func (PySem.W.fnOf "rank_among" "rank_among" (defArgs s_rank_among) (defBody s_rank_among) (defScope s_rank_among) .none kV4 dc4 pm4 an4 cd4 ct4), sl4⟩) (c4 : PySem.W.codeIn K cd4 "rank_among" = true) (k4 : PySem.W.keepIn K (.ref f4) = true)
    (a5 : PySem.W.nsIn K mainGlobals "steps_on" = some (some (.ref f5))) (l5 : K.lookup f5 = some ⟨oc5, od5, .func (PySem.W.fnOf "steps_on" "steps_on" (defArgs s_steps_on) (defBody s_steps_on) (defScope s_steps_on) .none kV5 dc5 pm5 an5 cd5 ct5), sl5⟩) (c5 : PySem.W.codeIn K cd5 "steps_on" = true) (k5 : PySem.W.keepIn K (.ref f5) = true)
    (a6 : PySem.W.nsIn K mainGlobals "next_version" = some (some (.ref f6))) (l6 : K.lookup f6 = some ⟨oc6, od6, .func (PySem.W.fnOf "next_version" "next_version" (defArgs s_next_version) (defBody s_next_version) (defScope s_next_version) .none kV6 dc6 pm6 an6 cd6 ct6), sl6⟩) (c6 : PySem.W.codeIn K cd6 "next_version" = true) (k6 : PySem.W.keepIn K (.ref f6) = true)
    (a7 : PySem.W.nsIn K mainGlobals "version_ahead" = some (some (.ref f7))) (l7 : K.lookup f7 = some ⟨oc7, od7, .func (PySem.W.fnOf "version_ahead" "version_ahead" (defArgs s_version_ahead) (defBody s_version_ahead) (defScope s_version_ahead) .none kV7 dc7 pm7 an7 cd7 ct7), sl7⟩) (c7 : PySem.W.codeIn K cd7 "version_ahead" = true) (k7 : PySem.W.keepIn K (.ref f7) = true)
    (a8 : PySem.W.nsIn K mainGlobals "steps_between" = some (some (.ref f8))) (l8 : K.lookup f8 = some ⟨oc8, od8, .func (PySem.W.fnOf "steps_between" "steps_between" (defArgs s_steps_between) (defBody s_steps_between) (defScope s_steps_between) .none kV8 dc8 pm8 an8 cd8 ct8), sl8⟩) (c8 : PySem.W.codeIn K cd8 "steps_between" = true) (k8 : PySem.W.keepIn K (.ref f8) = true)
    (a9 : PySem.W.nsIn K mainGlobals "next_release" = some (some (.ref f9))) (l9 : K.lookup f9 = some ⟨oc9, od9, .func (PySem.W.fnOf "next_release" "next_release" (defArgs s_next_release) (defBody s_next_release) (defScope s_next_release) .none kV9 dc9 pm9 an9 cd9 ct9), sl9⟩) (c9 : PySem.W.codeIn K cd9 "next_release" = true) (k9 : PySem.W.keepIn K (.ref f9) = true)
    (a10 : PySem.W.nsIn K mainGlobals "from_best" = some (some (.ref f10))) (l10 : K.lookup f10 = some ⟨oc10, od10, .func (PySem.W.fnOf "from_best" "from_best" (defArgs s_from_best) (defBody s_from_best) (defScope s_from_best) .none kV10 dc10 pm10 an10 cd10 ct10), sl10⟩) (c10 : PySem.W.codeIn K cd10 "from_best" = true) (k10 : PySem.W.keepIn K (.ref f10) = true)
    (a11 : PySem.W.nsIn K mainGlobals "newest_of" = some (some (.ref f11))) (l11 : K.lookup f11 = some ⟨oc11, od11, .func (PySem.W.fnOf "newest_of" "newest_of" (defArgs s_newest_of) (defBody s_newest_of) (defScope s_newest_of) .none kV11 dc11 pm11 an11 cd11 ct11), sl11⟩) (c11 : PySem.W.codeIn K cd11 "newest_of" = true) (k11 : PySem.W.keepIn K (.ref f11) = true)
    (a12 : PySem.W.nsIn K mainGlobals "_law_box" = some (some (.ref f12))) (l12 : K.lookup f12 = some ⟨oc12, od12, .func (PySem.W.fnOf "_law_box" "_law_box" (defArgs s_w_box) (defBody s_w_box) (defScope s_w_box) .none kV12 dc12 pm12 an12 cd12 ct12), sl12⟩) (c12 : PySem.W.codeIn K cd12 "_law_box" = true) (k12 : PySem.W.keepIn K (.ref f12) = true)
    (a13 : PySem.W.nsIn K mainGlobals "_law_take" = some (some (.ref f13))) (l13 : K.lookup f13 = some ⟨oc13, od13, .func (PySem.W.fnOf "_law_take" "_law_take" (defArgs s_w_take) (defBody s_w_take) (defScope s_w_take) .none kV13 dc13 pm13 an13 cd13 ct13), sl13⟩) (c13 : PySem.W.codeIn K cd13 "_law_take" = true) (k13 : PySem.W.keepIn K (.ref f13) = true)
    (a14 : PySem.W.nsIn K mainGlobals "_law_cells" = some (some (.ref f14))) (l14 : K.lookup f14 = some ⟨oc14, od14, .func (PySem.W.fnOf "_law_cells" "_law_cells" (defArgs s_w_cells) (defBody s_w_cells) (defScope s_w_cells) .none kV14 dc14 pm14 an14 cd14 ct14), sl14⟩) (c14 : PySem.W.codeIn K cd14 "_law_cells" = true) (k14 : PySem.W.keepIn K (.ref f14) = true)
    (a15 : PySem.W.nsIn K mainGlobals "_law_of" = some (some (.ref f15))) (l15 : K.lookup f15 = some ⟨oc15, od15, .func (PySem.W.fnOf "_law_of" "_law_of" (defArgs s_w_of) (defBody s_w_of) (defScope s_w_of) .none kV15 dc15 pm15 an15 cd15 ct15), sl15⟩) (c15 : PySem.W.codeIn K cd15 "_law_of" = true) (k15 : PySem.W.keepIn K (.ref f15) = true)
    (a16 : PySem.W.nsIn K mainGlobals "_law_lists" = some (some (.ref f16))) (l16 : K.lookup f16 = some ⟨oc16, od16, .func (PySem.W.fnOf "_law_lists" "_law_lists" (defArgs s_w_lists) (defBody s_w_lists) (defScope s_w_lists) .none kV16 dc16 pm16 an16 cd16 ct16), sl16⟩) (c16 : PySem.W.codeIn K cd16 "_law_lists" = true) (k16 : PySem.W.keepIn K (.ref f16) = true)
    (a17 : PySem.W.nsIn K mainGlobals "_law_same" = some (some (.ref f17))) (l17 : K.lookup f17 = some ⟨oc17, od17, .func (PySem.W.fnOf "_law_same" "_law_same" (defArgs s_w_same) (defBody s_w_same) (defScope s_w_same) .none kV17 dc17 pm17 an17 cd17 ct17), sl17⟩) (c17 : PySem.W.codeIn K cd17 "_law_same" = true) (k17 : PySem.W.keepIn K (.ref f17) = true)
    (a18 : PySem.W.nsIn K mainGlobals "_law_is_number" = some (some (.ref f18))) (l18 : K.lookup f18 = some ⟨oc18, od18, .func (PySem.W.fnOf "_law_is_number" "_law_is_number" (defArgs s_w_is_number) (defBody s_w_is_number) (defScope s_w_is_number) .none kV18 dc18 pm18 an18 cd18 ct18), sl18⟩) (c18 : PySem.W.codeIn K cd18 "_law_is_number" = true) (k18 : PySem.W.keepIn K (.ref f18) = true)
    (a19 : PySem.W.nsIn K mainGlobals "_law_next" = some (some (.ref f19))) (l19 : K.lookup f19 = some ⟨oc19, od19, .func (PySem.W.fnOf "_law_next" "_law_next" (defArgs s_w_next) (defBody s_w_next) (defScope s_w_next) .none kV19 dc19 pm19 an19 cd19 ct19), sl19⟩) (c19 : PySem.W.codeIn K cd19 "_law_next" = true) (k19 : PySem.W.keepIn K (.ref f19) = true)
    (a20 : PySem.W.nsIn K mainGlobals "_law_is_version" = some (some (.ref f20))) (l20 : K.lookup f20 = some ⟨oc20, od20, .func (PySem.W.fnOf "_law_is_version" "_law_is_version" (defArgs s_w_is_version) (defBody s_w_is_version) (defScope s_w_is_version) .none kV20 dc20 pm20 an20 cd20 ct20), sl20⟩) (c20 : PySem.W.codeIn K cd20 "_law_is_version" = true) (k20 : PySem.W.keepIn K (.ref f20) = true)
    (a21 : PySem.W.nsIn K mainGlobals "_law_newer" = some (some (.ref f21))) (l21 : K.lookup f21 = some ⟨oc21, od21, .func (PySem.W.fnOf "_law_newer" "_law_newer" (defArgs s_w_newer) (defBody s_w_newer) (defScope s_w_newer) .none kV21 dc21 pm21 an21 cd21 ct21), sl21⟩) (c21 : PySem.W.codeIn K cd21 "_law_newer" = true) (k21 : PySem.W.keepIn K (.ref f21) = true)
    (a22 : PySem.W.nsIn K mainGlobals "_law_ahead" = some (some (.ref f22))) (l22 : K.lookup f22 = some ⟨oc22, od22, .func (PySem.W.fnOf "_law_ahead" "_law_ahead" (defArgs s_w_ahead) (defBody s_w_ahead) (defScope s_w_ahead) .none kV22 dc22 pm22 an22 cd22 ct22), sl22⟩) (c22 : PySem.W.codeIn K cd22 "_law_ahead" = true) (k22 : PySem.W.keepIn K (.ref f22) = true)
    (a23 : PySem.W.nsIn K mainGlobals "_law_walk" = some (some (.ref f23))) (l23 : K.lookup f23 = some ⟨oc23, od23, .func (PySem.W.fnOf "_law_walk" "_law_walk" (defArgs s_w_walk) (defBody s_w_walk) (defScope s_w_walk) .none kV23 dc23 pm23 an23 cd23 ct23), sl23⟩) (c23 : PySem.W.codeIn K cd23 "_law_walk" = true) (k23 : PySem.W.keepIn K (.ref f23) = true)
    (a24 : PySem.W.nsIn K mainGlobals "_law_apart" = some (some (.ref f24))) (l24 : K.lookup f24 = some ⟨oc24, od24, .func (PySem.W.fnOf "_law_apart" "_law_apart" (defArgs s_w_apart) (defBody s_w_apart) (defScope s_w_apart) .none kV24 dc24 pm24 an24 cd24 ct24), sl24⟩) (c24 : PySem.W.codeIn K cd24 "_law_apart" = true) (k24 : PySem.W.keepIn K (.ref f24) = true)
    (a25 : PySem.W.nsIn K mainGlobals "_law_between" = some (some (.ref f25))) (l25 : K.lookup f25 = some ⟨oc25, od25, .func (PySem.W.fnOf "_law_between" "_law_between" (defArgs s_w_between) (defBody s_w_between) (defScope s_w_between) .none kV25 dc25 pm25 an25 cd25 ct25), sl25⟩) (c25 : PySem.W.codeIn K cd25 "_law_between" = true) (k25 : PySem.W.keepIn K (.ref f25) = true)
    (a26 : PySem.W.nsIn K mainGlobals "_law_bumped" = some (some (.ref f26))) (l26 : K.lookup f26 = some ⟨oc26, od26, .func (PySem.W.fnOf "_law_bumped" "_law_bumped" (defArgs s_w_bumped) (defBody s_w_bumped) (defScope s_w_bumped) .none kV26 dc26 pm26 an26 cd26 ct26), sl26⟩) (c26 : PySem.W.codeIn K cd26 "_law_bumped" = true) (k26 : PySem.W.keepIn K (.ref f26) = true)
    (a27 : PySem.W.nsIn K mainGlobals "_law_sorted" = some (some (.ref f27))) (l27 : K.lookup f27 = some ⟨oc27, od27, .func (PySem.W.fnOf "_law_sorted" "_law_sorted" (defArgs s_w_sorted) (defBody s_w_sorted) (defScope s_w_sorted) .none kV27 dc27 pm27 an27 cd27 ct27), sl27⟩) (c27 : PySem.W.codeIn K cd27 "_law_sorted" = true) (k27 : PySem.W.keepIn K (.ref f27) = true)
    (a28 : PySem.W.nsIn K mainGlobals "_law_close" = some (some (.ref f28))) (l28 : K.lookup f28 = some ⟨oc28, od28, .func (PySem.W.fnOf "_law_close" "_law_close" (defArgs s_w_close) (defBody s_w_close) (defScope s_w_close) .none kV28 dc28 pm28 an28 cd28 ct28), sl28⟩) (c28 : PySem.W.codeIn K cd28 "_law_close" = true) (k28 : PySem.W.keepIn K (.ref f28) = true)
    (a29 : PySem.W.nsIn K mainGlobals "_law_some" = some (some (.ref f29))) (l29 : K.lookup f29 = some ⟨oc29, od29, .func (PySem.W.fnOf "_law_some" "_law_some" (defArgs s_w_some) (defBody s_w_some) (defScope s_w_some) .none kV29 dc29 pm29 an29 cd29 ct29), sl29⟩) (c29 : PySem.W.codeIn K cd29 "_law_some" = true) (k29 : PySem.W.keepIn K (.ref f29) = true)
    (a30 : PySem.W.nsIn K mainGlobals "_law_by_hand_right" = some (some (.ref f30))) (l30 : K.lookup f30 = some ⟨oc30, od30, .func (PySem.W.fnOf "_law_by_hand_right" "_law_by_hand_right" (defArgs s_w_by_hand_right) (defBody s_w_by_hand_right) (defScope s_w_by_hand_right) .none kV30 dc30 pm30 an30 cd30 ct30), sl30⟩) (c30 : PySem.W.codeIn K cd30 "_law_by_hand_right" = true) (k30 : PySem.W.keepIn K (.ref f30) = true)
    (a31 : PySem.W.nsIn K mainGlobals "_law_right" = some (some (.ref f31))) (l31 : K.lookup f31 = some ⟨oc31, od31, .func (PySem.W.fnOf "_law_right" "_law_right" (defArgs s_w_right) (defBody s_w_right) (defScope s_w_right) .none kV31 dc31 pm31 an31 cd31 ct31), sl31⟩) (c31 : PySem.W.codeIn K cd31 "_law_right" = true) (k31 : PySem.W.keepIn K (.ref f31) = true)
    (a32 : PySem.W.nsIn K mainGlobals "law" = some (some (.ref f32))) (l32 : K.lookup f32 = some ⟨oc32, od32, .func (PySem.W.fnOf "law" "law" (defArgs s_law) (defBody s_law) (defScope s_law) .none kV32 dc32 pm32 an32 cd32 ct32), sl32⟩) (c32 : PySem.W.codeIn K cd32 "law" = true) (k32 : PySem.W.keepIn K (.ref f32) = true)
    (z0 : PySem.W.nsIn K mainGlobals "isinstance" = some none) (z1 : PySem.W.nsIn K mainGlobals "list" = some none) (z2 : PySem.W.nsIn K mainGlobals "tuple" = some none) (z3 : PySem.W.nsIn K mainGlobals "range" = some none) (z4 : PySem.W.nsIn K mainGlobals "sorted" = some none) (z5 : PySem.W.nsIn K mainGlobals "set" = some none) (z6 : PySem.W.nsIn K mainGlobals "abs" = some none) (z7 : PySem.W.nsIn K mainGlobals "int" = some none) (z8 : PySem.W.nsIn K mainGlobals "enumerate" = some none) (z9 : PySem.W.nsIn K mainGlobals "zip" = some none) (z10 : PySem.W.nsIn K mainGlobals "all" = some none) (z11 : PySem.W.nsIn K mainGlobals "min" = some none) (z12 : PySem.W.nsIn K mainGlobals "max" = some none) (z13 : PySem.W.nsIn K mainGlobals "len" = some none) (z14 : PySem.W.nsIn K mainGlobals "bool" = some none) (z15 : PySem.W.nsIn K mainGlobals "str" = some none) (ze : PySem.W.nsIn K mainGlobals "EARLIEST" = some (some (.int (-9) te))) :
    ∃ fd : FuncData, (∀ (s : Shared) (v : Value), BindsTo s fd ⟨[v], []⟩ [("_law_script", v)]) ∧ ∀ base : Heap, K.In base → base.Ns mainGlobals mg → FnOk l.prog w K mg base CX0 7 fa fd ["_law_script"] (spLaw K) := by
  have e := hfa.symm.trans (PySem.W.mg_of X G a32)
  cases e
  have B : Bi mg := ⟨PySem.W.mg_none_of X G z0, PySem.W.mg_none_of X G z1, PySem.W.mg_none_of X G z2, PySem.W.mg_none_of X G z3, PySem.W.mg_none_of X G z4, PySem.W.mg_none_of X G z5, PySem.W.mg_none_of X G z6, PySem.W.mg_none_of X G z7, PySem.W.mg_none_of X G z8, PySem.W.mg_none_of X G z9, PySem.W.mg_none_of X G z10, PySem.W.mg_none_of X G z11, PySem.W.mg_none_of X G z12, PySem.W.mg_none_of X G z13, PySem.W.mg_none_of X G z14, PySem.W.mg_none_of X G z15, te, PySem.W.mg_of X G ze⟩
  have E0 : De K mg "tupled" s_tupled P_tupled := de_mk X G a0 l0 c0 k0 fun _ _ _ _ _ _ us hl => match us, hl with | [_], _ => rfl
  have E1 : De K mg "is_early" s_is_early P_is_early := de_mk X G a1 l1 c1 k1 fun _ _ _ _ _ _ us hl => match us, hl with | [_], _ => rfl
  have E2 : De K mg "first_unlike" s_first_unlike P_first_unlike := de_mk X G a2 l2 c2 k2 fun _ _ _ _ _ _ us hl => match us, hl with | [_, _], _ => rfl
  have E3 : De K mg "compared" s_compared P_compared := de_mk X G a3 l3 c3 k3 fun _ _ _ _ _ _ us hl => match us, hl with | [_, _], _ => rfl
  have E4 : De K mg "rank_among" s_rank_among P_rank_among := de_mk X G a4 l4 c4 k4 fun _ _ _ _ _ _ us hl => match us, hl with | [_], _ => rfl
  have E5 : De K mg "steps_on" s_steps_on P_steps_on := de_mk X G a5 l5 c5 k5 fun _ _ _ _ _ _ us hl => match us, hl with | [_, _], _ => rfl
  have E6 : De K mg "next_version" s_next_version P_next_version := de_mk X G a6 l6 c6 k6 fun _ _ _ _ _ _ us hl => match us, hl with | [_], _ => rfl
  have E7 : De K mg "version_ahead" s_version_ahead P_version_ahead := de_mk X G a7 l7 c7 k7 fun _ _ _ _ _ _ us hl => match us, hl with | [_], _ => rfl
  have E8 : De K mg "steps_between" s_steps_between P_steps_between := de_mk X G a8 l8 c8 k8 fun _ _ _ _ _ _ us hl => match us, hl with | [_, _], _ => rfl
  have E9 : De K mg "next_release" s_next_release P_next_release := de_mk X G a9 l9 c9 k9 fun _ _ _ _ _ _ us hl => match us, hl with | [_, _], _ => rfl
  have E10 : De K mg "from_best" s_from_best P_from_best := de_mk X G a10 l10 c10 k10 fun _ _ _ _ _ _ us hl => match us, hl with | [_], _ => rfl
  have E11 : De K mg "newest_of" s_newest_of P_newest_of := de_mk X G a11 l11 c11 k11 fun _ _ _ _ _ _ us hl => match us, hl with | [_, _], _ => rfl
  have E12 : De K mg "_law_box" s_w_box P_w_box := de_mk X G a12 l12 c12 k12 fun _ _ _ _ _ _ us hl => match us, hl with | [_, _], _ => rfl
  have E13 : De K mg "_law_take" s_w_take P_w_take := de_mk X G a13 l13 c13 k13 fun _ _ _ _ _ _ us hl => match us, hl with | [_, _], _ => rfl
  have E14 : De K mg "_law_cells" s_w_cells P_w_cells := de_mk X G a14 l14 c14 k14 fun _ _ _ _ _ _ us hl => match us, hl with | [_, _], _ => rfl
  have E15 : De K mg "_law_of" s_w_of P_w_of := de_mk X G a15 l15 c15 k15 fun _ _ _ _ _ _ us hl => match us, hl with | [_, _], _ => rfl
  have E16 : De K mg "_law_lists" s_w_lists P_w_lists := de_mk X G a16 l16 c16 k16 fun _ _ _ _ _ _ us hl => match us, hl with | [_], _ => rfl
  have E17 : De K mg "_law_same" s_w_same P_w_same := de_mk X G a17 l17 c17 k17 fun _ _ _ _ _ _ us hl => match us, hl with | [_, _], _ => rfl
  have E18 : De K mg "_law_is_number" s_w_is_number P_w_is_number := de_mk X G a18 l18 c18 k18 fun _ _ _ _ _ _ us hl => match us, hl with | [_], _ => rfl
  have E19 : De K mg "_law_next" s_w_next P_w_next := de_mk X G a19 l19 c19 k19 fun _ _ _ _ _ _ us hl => match us, hl with | [_], _ => rfl
  have E20 : De K mg "_law_is_version" s_w_is_version P_w_is_version := de_mk X G a20 l20 c20 k20 fun _ _ _ _ _ _ us hl => match us, hl with | [_], _ => rfl
  have E21 : De K mg "_law_newer" s_w_newer P_w_newer := de_mk X G a21 l21 c21 k21 fun _ _ _ _ _ _ us hl => match us, hl with | [_, _], _ => rfl
  have E22 : De K mg "_law_ahead" s_w_ahead P_w_ahead := de_mk X G a22 l22 c22 k22 fun _ _ _ _ _ _ us hl => match us, hl with | [_], _ => rfl
  have E23 : De K mg "_law_walk" s_w_walk P_w_walk := de_mk X G a23 l23 c23 k23 fun _ _ _ _ _ _ us hl => match us, hl with | [_, _], _ => rfl
  have E24 : De K mg "_law_apart" s_w_apart P_w_apart := de_mk X G a24 l24 c24 k24 fun _ _ _ _ _ _ us hl => match us, hl with | [_, _], _ => rfl
  have E25 : De K mg "_law_between" s_w_between P_w_between := de_mk X G a25 l25 c25 k25 fun _ _ _ _ _ _ us hl => match us, hl with | [_, _], _ => rfl
  have E26 : De K mg "_law_bumped" s_w_bumped P_w_bumped := de_mk X G a26 l26 c26 k26 fun _ _ _ _ _ _ us hl => match us, hl with | [_, _], _ => rfl
  have E27 : De K mg "_law_sorted" s_w_sorted P_w_sorted := de_mk X G a27 l27 c27 k27 fun _ _ _ _ _ _ us hl => match us, hl with | [_], _ => rfl
  have E28 : De K mg "_law_close" s_w_close P_w_close := de_mk X G a28 l28 c28 k28 fun _ _ _ _ _ _ us hl => match us, hl with | [_, _], _ => rfl
  have E29 : De K mg "_law_some" s_w_some P_w_some := de_mk X G a29 l29 c29 k29 fun _ _ _ _ _ _ us hl => match us, hl with | [_], _ => rfl
  have E30 : De K mg "_law_by_hand_right" s_w_by_hand_right P_w_by_hand_right := de_mk X G a30 l30 c30 k30 fun _ _ _ _ _ _ us hl => match us, hl with | [], _ => rfl
  have E31 : De K mg "_law_right" s_w_right P_w_right := de_mk X G a31 l31 c31 k31 fun _ _ _ _ _ _ us hl => match us, hl with | [_], _ => rfl
  refine ⟨_, fun s v => .of_eq rfl, fun base _ _ => ok_all B (fun_mk (st := s_law) l32 c32 k32) E0 E1 E2 E3 E4 E5 E6 E7 E8 E9 E10 E11 E12 E13 E14 E15 E16 E17 E18 E19 E20 E21 E22 E23 E24 E25 E26 E27 E28 E29 E30 E31
    (PySem.W.mg_of X G a6) ⟨_, _, _, l6⟩ (fun s ws hl => match ws, hl with | [_], _ => .of_eq rfl)
    (PySem.W.mg_of X G a5) ⟨_, _, _, l5⟩ (fun s ws hl => match ws, hl with | [_, _], _ => .of_eq rfl)
    (PySem.W.mg_of X G a11) ⟨_, _, _, l11⟩ (fun s ws hl => match ws, hl with | [_, _], _ => .of_eq rfl)⟩
end Nf

open PySem PySem.W PyProof.Rows
set_option maxHeartbeats 0 in
theorem PySem.Challenge.cw_newestfit_k02_whole_order_and_steps_of_v_holds : PySem.Challenge.rw_newestfit_k02_whole_order_and_steps_of_v.Holds := by
  w_on; o_law; k_head; (case hw => w_witness2)
  k_fill
  refine L2.walk_of (l := PySem.Challenge.rw_newestfit_k02_whole_order_and_steps_of_v) (n := 63) (k := 7) (x := "_law_script") (CX := fun _ => L2.CX0) (sp := fun w => Nf.spLaw _) rfl (by decide) rfl ⟨rfl, by decide, by decide⟩ (fun w h Y => PySem.W.kIn_of Y) ?F (fun _ _ a ns hl _ hS => ⟨a, ns, rfl, hS, hl, fun _ => rfl⟩) (fun _ _ _ _ _ h => h)
  case F =>
    intro w mg fa h KX G hmg
    refine' Nf.all_mk KX G hmg ?a0 ?l0 ?c0 ?k0 ?a1 ?l1 ?c1 ?k1 ?a2 ?l2 ?c2 ?k2 ?a3 ?l3 ?c3 ?k3 ?a4 ?l4 ?c4 ?k4 ?a5 ?l5 ?c5 ?k5 ?a6 ?l6 ?c6 ?k6 ?a7 ?l7 ?c7 ?k7 ?a8 ?l8 ?c8 ?k8 ?a9 ?l9 ?c9 ?k9 ?a10 ?l10 ?c10 ?k10 ?a11 ?l11 ?c11 ?k11 ?a12 ?l12 ?c12 ?k12 ?a13 ?l13 ?c13 ?k13 ?a14 ?l14 ?c14 ?k14 ?a15 ?l15 ?c15 ?k15 ?a16 ?l16 ?c16 ?k16 ?a17 ?l17 ?c17 ?k17 ?a18 ?l18 ?c18 ?k18 ?a19 ?l19 ?c19 ?k19 ?a20 ?l20 ?c20 ?k20 ?a21 ?l21 ?c21 ?k21 ?a22 ?l22 ?c22 ?k22 ?a23 ?l23 ?c23 ?k23 ?a24 ?l24 ?c24 ?k24 ?a25 ?l25 ?c25 ?k25 ?a26 ?l26 ?c26 ?k26 ?a27 ?l27 ?c27 ?k27 ?a28 ?l28 ?c28 ?k28 ?a29 ?l29 ?c29 ?k29 ?a30 ?l30 ?c30 ?k30 ?a31 ?l31 ?c31 ?k31 ?a32 ?l32 ?c32 ?k32 ?z0 ?z1 ?z2 ?z3 ?z4 ?z5 ?z6 ?z7 ?z8 ?z9 ?z10 ?z11 ?z12 ?z13 ?z14 ?z15 ?ze
    (case a0 => k_is); (case l0 => k_is); (case c0 => k_is); (case k0 => k_is); (case a1 => k_is); (case l1 => k_is); (case c1 => k_is); (case k1 => k_is); (case a2 => k_is); (case l2 => k_is); (case c2 => k_is); (case k2 => k_is); (case a3 => k_is); (case l3 => k_is); (case c3 => k_is); (case k3 => k_is); (case a4 => k_is); (case l4 => k_is); (case c4 => k_is); (case k4 => k_is); (case a5 => k_is); (case l5 => k_is); (case c5 => k_is); (case k5 => k_is); (case a6 => k_is); (case l6 => k_is); (case c6 => k_is); (case k6 => k_is); (case a7 => k_is); (case l7 => k_is); (case c7 => k_is); (case k7 => k_is); (case a8 => k_is); (case l8 => k_is); (case c8 => k_is); (case k8 => k_is); (case a9 => k_is); (case l9 => k_is); (case c9 => k_is); (case k9 => k_is); (case a10 => k_is); (case l10 => k_is); (case c10 => k_is); (case k10 => k_is); (case a11 => k_is); (case l11 => k_is); (case c11 => k_is); (case k11 => k_is); (case a12 => k_is); (case l12 => k_is); (case c12 => k_is); (case k12 => k_is); (case a13 => k_is); (case l13 => k_is); (case c13 => k_is); (case k13 => k_is); (case a14 => k_is); (case l14 => k_is); (case c14 => k_is); (case k14 => k_is); (case a15 => k_is); (case l15 => k_is); (case c15 => k_is); (case k15 => k_is); (case a16 => k_is); (case l16 => k_is); (case c16 => k_is); (case k16 => k_is); (case a17 => k_is); (case l17 => k_is); (case c17 => k_is); (case k17 => k_is); (case a18 => k_is); (case l18 => k_is); (case c18 => k_is); (case k18 => k_is); (case a19 => k_is); (case l19 => k_is); (case c19 => k_is); (case k19 => k_is); (case a20 => k_is); (case l20 => k_is); (case c20 => k_is); (case k20 => k_is); (case a21 => k_is); (case l21 => k_is); (case c21 => k_is); (case k21 => k_is); (case a22 => k_is); (case l22 => k_is); (case c22 => k_is); (case k22 => k_is); (case a23 => k_is); (case l23 => k_is); (case c23 => k_is); (case k23 => k_is); (case a24 => k_is); (case l24 => k_is); (case c24 => k_is); (case k24 => k_is); (case a25 => k_is); (case l25 => k_is); (case c25 => k_is); (case k25 => k_is); (case a26 => k_is); (case l26 => k_is); (case c26 => k_is); (case k26 => k_is); (case a27 => k_is); (case l27 => k_is); (case c27 => k_is); (case k27 => k_is); (case a28 => k_is); (case l28 => k_is); (case c28 => k_is); (case k28 => k_is); (case a29 => k_is); (case l29 => k_is); (case c29 => k_is); (case k29 => k_is); (case a30 => k_is); (case l30 => k_is); (case c30 => k_is); (case k30 => k_is); (case a31 => k_is); (case l31 => k_is); (case c31 => k_is); (case k31 => k_is); (case a32 => k_is); (case l32 => k_is); (case c32 => k_is); (case k32 => k_is); (case z0 => k_is); (case z1 => k_is); (case z2 => k_is); (case z3 => k_is); (case z4 => k_is); (case z5 => k_is); (case z6 => k_is); (case z7 => k_is); (case z8 => k_is); (case z9 => k_is); (case z10 => k_is); (case z11 => k_is); (case z12 => k_is); (case z13 => k_is); (case z14 => k_is); (case z15 => k_is); (case ze => k_is)
