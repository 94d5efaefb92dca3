import PyProof.Rows.All
import Wide.All
import OpenK.AllK
import Wide.FinOn
import PyProof.EqAt
import PyProof.EqKinds
import PyProof.TupleCall
import HandS.ForMost
import HandS.Set
import HandS.SetFor
import HandS.Hot
import HandS.HotCalls
import HandS.ForExc
import HandS.ExcInit
import HandS.ExcField
import HandS.ExcCtx
import HandS.SuiteRaise
import HandS.IsInst
import HandS.Codes
import HandS.Conv
import HandS.More
import HandS.ExcIs
import HandS.ExcInitHot
import PySem.Challenge.RW_fitmost_k14_whole_rings
set_option Elab.async false
set_option linter.all false
set_option maxRecDepth 100000
set_option maxHeartbeats 8000000
/-! plain law: kinds over kinds, no program in sight -/
namespace Rg
section
variable {α : Type} [DecidableEq α]

/-- a set of names that holds itself up: each has one over it within -/
def Up (N : List α) (U : α → List α) (S : α → Prop) : Prop := ∀ x, S x → x ∈ N ∧ ∃ u, u ∈ U x ∧ S u
/-- L holds all that holds itself up -/
def Big (N : List α) (U : α → List α) (L : List α) : Prop := ∀ S : α → Prop, Up N U S → ∀ x, S x → x ∈ L
/-- .. and holds itself up -/
structure Left (N : List α) (U : α → List α) (L : List α) : Prop where
  sub : ∀ x ∈ L, x ∈ N
  sup : ∀ x ∈ L, ∃ u, u ∈ U x ∧ u ∈ L
  big : Big N U L
  nd : L.Nodup

theorem Left.nil_iff {N : List α} {U : α → List α} {L M : List α} (l : Left N U L) (m : Left N U M) : L = [] ↔ M = [] := by
  have key : ∀ {A B : List α}, Left N U A → Left N U B → A = [] → B = [] := fun {A B} a b e => by
    cases B with
    | nil => rfl
    | cons x r =>
      have h := a.big (fun y => y ∈ x :: r) (fun y hy => ⟨b.sub y hy, b.sup y hy⟩) x (List.mem_cons_self ..)
      rw [e] at h
      cases h
  exact ⟨key l m, key m l⟩
/-- the overs matter by their members alone -/
theorem Left.congr {N : List α} {U U' : α → List α} {L : List α} (h : ∀ x ∈ N, ∀ u, u ∈ U x ↔ u ∈ U' x) (l : Left N U L) : Left N U' L where
  sub := l.sub
  sup := fun x hx => by
    obtain ⟨u, h1, h2⟩ := l.sup x hx
    exact ⟨u, (h x (l.sub x hx) u).1 h1, h2⟩
  big := fun S hS x hx => l.big S (fun y hy => by
    obtain ⟨h1, u, h2, h3⟩ := hS y hy
    exact ⟨h1, u, (h y h1 u).2 h2, h3⟩) x hx
  nd := l.nd

/-! ### pigeons -/
theorem len_le : ∀ (l D : List α), l.Nodup → (∀ x ∈ l, x ∈ D) → l.length ≤ D.length
  | [], _, _, _ => Nat.zero_le _
  | x :: l, D, hn, hs => by
    obtain ⟨h1, h2⟩ := List.nodup_cons.mp hn
    have hx : x ∈ D := hs x (List.mem_cons_self ..)
    have ih := len_le l (D.erase x) h2 fun y hy => by
      have hne : y ≠ x := fun e => h1 (e ▸ hy)
      exact (List.mem_erase_of_ne hne).2 (hs y (List.mem_cons_of_mem _ hy))
    have he := List.length_erase_of_mem hx
    have hpos : 0 < D.length := List.length_pos_of_mem hx
    rw [List.length_cons]
    omega
theorem all_of_len {l D : List α} (hn : l.Nodup) (hd : D.Nodup) (hs : ∀ x ∈ l, x ∈ D) (h : D.length ≤ l.length) : ∀ x ∈ D, x ∈ l := by
  intro x hx
  apply Classical.byContradiction
  intro hc
  have := len_le (x :: l) D (List.nodup_cons.mpr ⟨hc, hn⟩) (fun y hy => by
    rcases List.mem_cons.mp hy with e | e
    · rw [e]; exact hx
    · exact hs y e)
  rw [List.length_cons] at this
  omega

/-! ### the program's way: all free ones out at once -/
/-- one round -/
def sift (U : α → List α) (L : List α) : List α := L.filter fun n => (U n).any fun u => decide (u ∈ L)
def free (U : α → List α) (L : List α) : List α := L.filter fun n => !((U n).any fun u => decide (u ∈ L))
theorem sift_eq (U : α → List α) (L : List α) : (L.filter fun n => decide (n ∉ free U L)) = sift U L := by
  unfold sift
  apply List.filter_congr
  intro n hn
  cases h : (U n).any fun u => decide (u ∈ L) with
  | true =>
    rw [decide_eq_true]
    intro hc
    have := (List.mem_filter.mp hc).2
    rw [h] at this
    cases this
  | false =>
    rw [decide_eq_false]
    intro hc
    exact hc (List.mem_filter.mpr ⟨hn, by rw [h]; rfl⟩)
theorem sift_sub (U : α → List α) (L : List α) : ∀ x ∈ sift U L, x ∈ L := fun x hx => (List.mem_filter.mp hx).1
theorem sift_nd (U : α → List α) {L : List α} (h : L.Nodup) : (sift U L).Nodup := h.filter _
theorem sift_big {N : List α} {U : α → List α} {L : List α} (h : Big N U L) : Big N U (sift U L) := fun S hS x hx => by
  obtain ⟨_, u, h1, h2⟩ := hS x hx
  exact List.mem_filter.mpr ⟨h S hS x hx, List.any_eq_true.mpr ⟨u, h1, decide_eq_true (h S hS u h2)⟩⟩
theorem sift_len (U : α → List α) (L : List α) : (sift U L).length + (free U L).length = L.length := by
  unfold sift free
  induction L with
  | nil => rfl
  | cons a r ih =>
    have key : ∀ (p : α → Bool) (l : List α), (l.filter p).length + (l.filter fun n => !p n).length = l.length := by
      intro p l
      induction l with
      | nil => rfl
      | cons b s ih =>
        cases hb : p b
        · rw [List.filter_cons_of_neg (by simp [hb]), List.filter_cons_of_pos (by simp [hb]), List.length_cons, List.length_cons]; omega
        · rw [List.filter_cons_of_pos (by simp [hb]), List.filter_cons_of_neg (by simp [hb]), List.length_cons, List.length_cons]; omega
    exact key (fun n => (U n).any fun u => decide (u ∈ a :: r)) (a :: r)
theorem sift_done {N : List α} {U : α → List α} {L : List α} (hs : ∀ x ∈ L, x ∈ N) (hn : L.Nodup) (hb : Big N U L) (h : free U L = []) : Left N U (sift U L) := by
  have e : sift U L = L := by
    unfold sift
    apply List.filter_eq_self.mpr
    intro n hn
    cases hc : (U n).any fun u => decide (u ∈ L) with
    | true => rfl
    | false =>
      have : n ∈ free U L := List.mem_filter.mpr ⟨hn, by rw [hc]; rfl⟩
      rw [h] at this
      cases this
  rw [e]
  refine ⟨hs, fun x hx => ?_, hb, hn⟩
  rw [← e] at hx
  obtain ⟨u, h1, h2⟩ := List.any_eq_true.mp (List.mem_filter.mp hx).2
  exact ⟨u, h1, of_decide_eq_true h2⟩

/-! ### the law's way: one after the other, as many rounds as names -/
/-- within a round over the snapshot l0, before its i-th name; ks: the names left -/
structure Rnd (N : List α) (U : α → List α) (l0 : List α) (i : Nat) (ks : List α) : Prop where
  sub : ∀ x ∈ ks, x ∈ N
  nd : ks.Nodup
  big : Big N U ks
  ahead : ∀ x ∈ l0.drop i, x ∈ ks
  prog : (ks = l0 ∧ ∀ x ∈ l0.take i, ∃ u, u ∈ U x ∧ u ∈ l0) ∨ ks.length < l0.length
/-- between two rounds: k done -/
structure Rds (N : List α) (U : α → List α) (k : Nat) (ks : List α) : Prop where
  sub : ∀ x ∈ ks, x ∈ N
  nd : ks.Nodup
  big : Big N U ks
  prog : (∀ x ∈ ks, ∃ u, u ∈ U x ∧ u ∈ ks) ∨ ks.length + k ≤ N.length
theorem Rds.start {N : List α} {U : α → List α} (hn : N.Nodup) : Rds N U 0 N :=
  ⟨fun _ h => h, hn, fun S hS x hx => (hS x hx).1, .inr (Nat.le_refl _)⟩
theorem Rds.rnd {N : List α} {U : α → List α} {k : Nat} {ks : List α} (r : Rds N U k ks) : Rnd N U ks 0 ks :=
  ⟨r.sub, r.nd, r.big, fun x h => by simpa using h, .inl ⟨rfl, fun x h => by simp at h⟩⟩
/-- a name with one left over it stays -/
theorem Rnd.stay {N : List α} {U : α → List α} {l0 ks : List α} {i : Nat} {x : α} (r : Rnd N U l0 i ks) (hx : l0[i]? = some x) (h : ∃ u, u ∈ U x ∧ u ∈ ks) : Rnd N U l0 (i + 1) ks := by
  refine ⟨r.sub, r.nd, r.big, fun y hy => r.ahead y ?_, ?_⟩
  · rw [← List.drop_drop] at hy
    exact List.mem_of_mem_drop hy
  · rcases r.prog with ⟨e, h1⟩ | h1
    · refine .inl ⟨e, fun y hy => ?_⟩
      rw [List.take_add_one, hx] at hy
      rcases List.mem_append.mp hy with hy | hy
      · exact h1 y hy
      · have : y = x := by simpa using hy
        rw [this, ← e]
        exact h
    · exact .inr h1
theorem Rnd.here {N : List α} {U : α → List α} {l0 ks : List α} {i : Nat} {x : α} (r : Rnd N U l0 i ks) (hx : l0[i]? = some x) : x ∈ ks := by
  apply r.ahead
  obtain ⟨hi, e⟩ := List.getElem?_eq_some_iff.mp hx
  rw [List.drop_eq_getElem_cons hi, e]
  exact List.mem_cons_self ..
/-- one without goes -/
theorem Rnd.out {N : List α} {U : α → List α} {l0 ks : List α} {i : Nat} {x : α} (r : Rnd N U l0 i ks) (h0 : l0.Nodup) (hx : l0[i]? = some x) (h : ¬ ∃ u, u ∈ U x ∧ u ∈ ks) : Rnd N U l0 (i + 1) (ks.filter fun y => decide (y ≠ x)) := by
  have hm := r.here hx
  have hlen : (ks.filter fun y => decide (y ≠ x)).length < ks.length := by
    have h1 : (ks.filter fun y => decide (y ≠ x)).length ≠ ks.length := fun e => by
      have h2 := List.length_filter_eq_length_iff.mp e x hm
      simp at h2
    have h2 := List.length_filter_le (fun y => decide (y ≠ x)) ks
    omega
  obtain ⟨hi, e⟩ := List.getElem?_eq_some_iff.mp hx
  refine ⟨fun y hy => r.sub y (List.mem_filter.mp hy).1, r.nd.filter _, fun S hS y hy => ?_, fun y hy => ?_, .inr ?_⟩
  · refine List.mem_filter.mpr ⟨r.big S hS y hy, decide_eq_true fun c => h ?_⟩
    rw [c] at hy
    obtain ⟨_, u, h1, h2⟩ := hS x hy
    exact ⟨u, h1, r.big S hS u h2⟩
  · refine List.mem_filter.mpr ⟨r.ahead y ?_, decide_eq_true fun c => ?_⟩
    · rw [List.drop_eq_getElem_cons hi]
      exact List.mem_cons_of_mem _ hy
    · have h3 : (l0.drop i).Nodup := h0.sublist (List.drop_sublist i l0)
      rw [List.drop_eq_getElem_cons hi, e] at h3
      exact (List.nodup_cons.mp h3).1 (c ▸ hy)
  · rcases r.prog with ⟨e2, _⟩ | h2
    · rw [e2] at hlen ⊢; exact hlen
    · omega
theorem Rnd.rds {N : List α} {U : α → List α} {l0 ks : List α} {k : Nat} (r0 : Rds N U k l0) (r : Rnd N U l0 l0.length ks) : Rds N U (k + 1) ks := by
  refine ⟨r.sub, r.nd, r.big, ?_⟩
  rcases r.prog with ⟨e, h⟩ | h
  · rw [List.take_length] at h
    exact .inl (by rw [e]; exact h)
  · rcases r0.prog with h1 | h1
    · exfalso
      have hb := r.big (fun y => y ∈ l0) (fun y hy => ⟨r0.sub y hy, h1 y hy⟩)
      have := len_le l0 ks r0.nd hb
      omega
    · exact .inr (by omega)
theorem Rds.left {N : List α} {U : α → List α} {ks : List α} (r : Rds N U N.length ks) : Left N U ks := by
  refine ⟨r.sub, ?_, r.big, r.nd⟩
  rcases r.prog with h | h
  · exact h
  · have : ks = [] := List.eq_nil_of_length_eq_zero (by omega)
    rw [this]
    intro x hx
    cases hx

/-! ### the ring -/
/-- each next one straight over the one before -/
def Chain (U : α → List α) (way : List α) : Prop := ∀ i x y, way[i]? = some x → way[i + 1]? = some y → y ∈ U x
structure Ringed (N : List α) (U : α → List α) (r : List α) : Prop where
  ne : r ≠ []
  nd : r.Nodup
  sub : ∀ x ∈ r, x ∈ N
  chain : Chain U r
  back : ∀ x y, r[r.length - 1]? = some x → r[0]? = some y → y ∈ U x
/-- the way so far -/
structure Way (U : α → List α) (L way : List α) : Prop where
  ne : way ≠ []
  nd : way.Nodup
  sub : ∀ x ∈ way, x ∈ L
  chain : Chain U way
theorem Way.start {U : α → List α} {x : α} {L : List α} (h : x ∈ L) : Way U L [x] :=
  ⟨by simp, by simp, fun y hy => by rw [List.mem_singleton.mp hy]; exact h, fun i a b ha hb => by simp at hb⟩
theorem Way.more {U : α → List α} {L way : List α} {x y : α} (w : Way U L way) (hx : way[way.length - 1]? = some x) (hy : y ∈ U x) (hL : y ∈ L) (hn : y ∉ way) : Way U L (way ++ [y]) := by
  refine ⟨by simp, ?_, fun z hz => ?_, fun i a b ha hb => ?_⟩
  · rw [List.nodup_append]
    refine ⟨w.nd, by simp, fun a ha b hb e => ?_⟩
    rw [List.mem_singleton.mp hb] at e
    exact hn (e ▸ ha)
  · rcases List.mem_append.mp hz with h | h
    · exact w.sub z h
    · rw [List.mem_singleton.mp h]; exact hL
  · have hpos : 0 < way.length := List.length_pos_iff.mpr w.ne
    have hlen : i + 1 < way.length + 1 := by
      have := (List.getElem?_eq_some_iff.mp hb).1
      simpa using this
    by_cases h : i + 1 < way.length
    · rw [List.getElem?_append_left (by omega)] at ha
      rw [List.getElem?_append_left h] at hb
      exact w.chain i a b ha hb
    · have e : i = way.length - 1 := by omega
      rw [List.getElem?_append_left (by omega), e, hx] at ha
      rw [List.getElem?_append_right (by omega)] at hb
      have e2 : i + 1 - way.length = 0 := by omega
      rw [e2] at hb
      simp at ha hb
      rw [← ha, ← hb]
      exact hy
theorem Way.len {U : α → List α} {L way : List α} (w : Way U L way) : way.length ≤ L.length := len_le way L w.nd w.sub
theorem Way.ring {N : List α} {U : α → List α} {L way : List α} {x y : α} {j : Nat} (w : Way U L way) (hL : ∀ z ∈ L, z ∈ N) (hx : way[way.length - 1]? = some x) (hy : y ∈ U x) (hj : way[j]? = some y) : Ringed N U (way.drop j) := by
  have hlt := (List.getElem?_eq_some_iff.mp hj).1
  refine ⟨fun e => ?_, w.nd.sublist (List.drop_sublist j way), fun z hz => hL z (w.sub z (List.mem_of_mem_drop hz)), fun i a b ha hb => ?_, fun a b ha hb => ?_⟩
  · have := congrArg List.length e
    rw [List.length_drop] at this
    simp at this
    omega
  · rw [List.getElem?_drop] at ha hb
    exact w.chain (j + i) a b ha (by rw [Nat.add_assoc]; exact hb)
  · rw [List.getElem?_drop] at ha hb
    rw [List.length_drop] at ha
    have e : j + (way.length - j - 1) = way.length - 1 := by omega
    rw [e, hx] at ha
    rw [Nat.add_zero, hj] at hb
    rw [← Option.some.inj ha, ← Option.some.inj hb]
    exact hy
/-- what zip(r, r[1:] + r[:1]) walks -/
theorem Ringed.pair {N : List α} {U : α → List α} {r : List α} (h : Ringed N U r) {i : Nat} {x y : α} (hx : r[i]? = some x) (hy : (r.drop 1 ++ r.take 1)[i]? = some y) : y ∈ U x := by
  have hlt := (List.getElem?_eq_some_iff.mp hx).1
  by_cases hl : i + 1 < r.length
  · rw [List.getElem?_append_left (by rw [List.length_drop]; omega), List.getElem?_drop] at hy
    exact h.chain i x y hx (by rw [Nat.add_comm]; exact hy)
  · have e : i = r.length - 1 := by omega
    rw [List.getElem?_append_right (by rw [List.length_drop]; omega), List.length_drop] at hy
    have e2 : i - (r.length - 1) = 0 := by omega
    rw [e2, List.getElem?_take] at hy
    simp at hy
    subst e
    exact h.back x y hx (by simpa using hy)
theorem Ringed.congr {N : List α} {U U' : α → List α} {r : List α} (e : ∀ x ∈ N, ∀ u, u ∈ U x → u ∈ U' x) (h : Ringed N U r) : Ringed N U' r :=
  ⟨h.ne, h.nd, h.sub, fun i x y hx hy => e x (h.sub x (List.mem_of_getElem? hx)) y (h.chain i x y hx hy), fun x y hx hy => e x (h.sub x (List.mem_of_getElem? hx)) y (h.back x y hx hy)⟩

/-! ### places -/
/-- behind k rounds -/
structure Plc (N : List α) (k : Nat) (ps : List α) : Prop where
  sub : ∀ x ∈ ps, x ∈ N
  nd : ps.Nodup
  prog : k ≤ ps.length ∨ ∀ x ∈ N, x ∈ ps
/-- within a round that began with p0 -/
structure PlR (N : List α) (U : α → List α) (p0 : List α) (i : Nat) (ps : List α) : Prop where
  sub : ∀ x ∈ ps, x ∈ N
  nd : ps.Nodup
  old : ∀ x ∈ p0, x ∈ ps
  new : ∀ x ∈ N.take i, (∀ u ∈ U x, u ∈ p0) → x ∈ ps
theorem Plc.start (N : List α) : Plc N 0 ([] : List α) := ⟨fun x h => (by cases h), List.nodup_nil, .inl (Nat.zero_le _)⟩
theorem Plc.rnd {N : List α} {U : α → List α} {k : Nat} {ps : List α} (p : Plc N k ps) : PlR N U ps 0 ps := ⟨p.sub, p.nd, fun _ h => h, fun x h => by simp at h⟩
theorem PlR.stay {N : List α} {U : α → List α} {p0 ps : List α} {i : Nat} {x : α} (p : PlR N U p0 i ps) (hx : N[i]? = some x) (h : ¬ ∀ u ∈ U x, u ∈ ps) : PlR N U p0 (i + 1) ps :=
  ⟨p.sub, p.nd, p.old, fun y hy hu => by
    rw [List.take_add_one, hx] at hy
    rcases List.mem_append.mp hy with hy | hy
    · exact p.new y hy hu
    · have e : y = x := by simpa using hy
      rw [e] at hu
      exact absurd (fun u hm => p.old u (hu u hm)) h⟩
theorem PlR.there {N : List α} {U : α → List α} {p0 ps : List α} {i : Nat} {x : α} (p : PlR N U p0 i ps) (hx : N[i]? = some x) (h : x ∈ ps) : PlR N U p0 (i + 1) ps :=
  ⟨p.sub, p.nd, p.old, fun y hy hu => by
    rw [List.take_add_one, hx] at hy
    rcases List.mem_append.mp hy with hy | hy
    · exact p.new y hy hu
    · have e : y = x := by simpa using hy
      rw [e]
      exact h⟩
theorem PlR.put {N : List α} {U : α → List α} {p0 ps : List α} {i : Nat} {x : α} (p : PlR N U p0 i ps) (hx : N[i]? = some x) (h : x ∉ ps) : PlR N U p0 (i + 1) (ps ++ [x]) := by
  have hN : x ∈ N := List.mem_of_getElem? hx
  refine ⟨fun y hy => ?_, ?_, fun y hy => List.mem_append_left _ (p.old y hy), fun y hy hu => ?_⟩
  · rcases List.mem_append.mp hy with h | h
    · exact p.sub y h
    · rw [List.mem_singleton.mp h]; exact hN
  · rw [List.nodup_append]
    refine ⟨p.nd, by simp, fun a ha b hb e => ?_⟩
    rw [List.mem_singleton.mp hb] at e
    exact h (e ▸ ha)
  · rw [List.take_add_one, hx] at hy
    rcases List.mem_append.mp hy with hy | hy
    · exact List.mem_append_left _ (p.new y hy hu)
    · have e : y = x := by simpa using hy
      rw [e]
      exact List.mem_append_right _ (List.mem_singleton.mpr rfl)
theorem PlR.done {N : List α} {U : α → List α} {k : Nat} {p0 ps : List α} (hU : ∀ x ∈ N, ∀ u ∈ U x, u ∈ N) (l : Left N U []) (p : Plc N k p0) (r : PlR N U p0 N.length ps) : Plc N (k + 1) ps := by
  refine ⟨r.sub, r.nd, ?_⟩
  rw [show PlR N U p0 N.length ps = PlR N U p0 N.length ps from rfl] at r
  by_cases hall : ∀ x ∈ N, x ∈ ps
  · exact .inr hall
  · left
    have hnot : ¬ ∀ x ∈ N, x ∈ p0 := fun h => hall fun x hx => r.old x (h x hx)
    have hk : k ≤ p0.length := p.prog.resolve_right hnot
    -- some unplaced one has all its overs placed
    have hex : ∃ x, x ∈ N ∧ x ∉ p0 ∧ ∀ u ∈ U x, u ∈ p0 := by
      apply Classical.byContradiction
      intro hc
      obtain ⟨z, hz1, hz2⟩ : ∃ z, z ∈ N ∧ z ∉ p0 := by
        apply Classical.byContradiction
        intro hc2
        exact hnot fun x hx => Classical.byContradiction fun h => hc2 ⟨x, hx, h⟩
      have := l.big (fun y => y ∈ N ∧ y ∉ p0) (fun y hy => ⟨hy.1, by
        apply Classical.byContradiction
        intro hc3
        exact hc ⟨y, hy.1, hy.2, fun u hu => Classical.byContradiction fun h => hc3 ⟨u, hu, hU y hy.1 u hu, h⟩⟩⟩) z ⟨hz1, hz2⟩
      cases this
    obtain ⟨x, h1, h2, h3⟩ := hex
    have hx : x ∈ ps := r.new x (by rw [List.take_length]; exact h1) h3
    have := len_le (x :: p0) ps (List.nodup_cons.mpr ⟨h2, p.nd⟩) (fun y hy => by
      rcases List.mem_cons.mp hy with e | e
      · rw [e]; exact hx
      · exact r.old y e)
    rw [List.length_cons] at this
    omega
theorem Plc.all {N : List α} {ps : List α} (hn : N.Nodup) (p : Plc N N.length ps) : ps.length = N.length := by
  have h1 := len_le ps N p.nd p.sub
  rcases p.prog with h | h
  · omega
  · have h2 := len_le N ps hn h
    omega
end
end Rg
/-! plain law: the law's words -/
namespace Wd
/-- what is left of q behind i letters, and the letters -/
def rst (q : Int) : Nat → Int
  | 0 => q
  | i + 1 => rst q i / 26
def digs (q : Int) : Nat → List Nat
  | 0 => []
  | i + 1 => digs q i ++ [97 + (rst q i % 26).toNat]
def spec : List (List Nat) := [[97, 110, 121], [110, 111, 110, 101], [98, 108, 97, 110, 107], [110, 101, 119], [111, 110]]
def many (n : Int) : Nat := (1 + n % 8).toNat
def word (n : Int) : List Nat := if digs (n / 8) (many n) ∈ spec then digs (n / 8) (many n) ++ [115] else digs (n / 8) (many n)
/-- the codes of a name -/
structure Nm (l : List Nat) : Prop where
  ne : l ≠ []
  len : l.length ≤ 8
  low : ∀ c ∈ l, 97 ≤ c ∧ c ≤ 122
  free : l ∉ spec
theorem digs_len (q : Int) : ∀ i, (digs q i).length = i
  | 0 => rfl
  | i + 1 => by rw [digs, List.length_append, digs_len q i]; rfl
theorem digs_low (q : Int) : ∀ i, ∀ c ∈ digs q i, 97 ≤ c ∧ c ≤ 122
  | 0, c, h => by cases h
  | i + 1, c, h => by
    rw [digs] at h
    rcases List.mem_append.mp h with h | h
    · exact digs_low q i c h
    · rw [List.mem_singleton.mp h]
      omega
theorem digs_head (q : Int) : ∀ i, (digs q (i + 1))[0]? = some (97 + (q % 26).toNat)
  | 0 => rfl
  | i + 1 => by
    have ih := digs_head q i
    rw [digs, List.getElem?_append_left (by rw [digs_len]; omega)]
    exact ih
theorem many_pos (n : Int) : 1 ≤ many n ∧ many n ≤ 8 := by unfold many; omega
theorem spec_all : ∀ l ∈ spec, l.length ≤ 5 ∧ l ++ [115] ∉ spec := by decide
theorem word_nm (n : Int) : Nm (word n) := by
  have h := many_pos n
  unfold word
  by_cases hs : digs (n / 8) (many n) ∈ spec
  · rw [if_pos hs]
    obtain ⟨h1, h2⟩ := spec_all _ hs
    refine ⟨by simp, by rw [List.length_append]; simp; omega, fun c hc => ?_, h2⟩
    rcases List.mem_append.mp hc with hc | hc
    · exact digs_low _ _ c hc
    · rw [List.mem_singleton.mp hc]; omega
  · rw [if_neg hs]
    refine ⟨fun e => ?_, by rw [digs_len]; exact h.2, digs_low _ _, hs⟩
    have := congrArg List.length e
    rw [digs_len] at this
    simp at this
    omega
theorem word_long {n : Int} (h : n % 8 = 7) : (word n)[0]? = some (97 + ((n / 8) % 26).toNat) := by
  have e : many n = 8 := by unfold many; omega
  have hn : digs (n / 8) 8 ∉ spec := fun c => by
    have := (spec_all _ c).1
    rw [digs_len] at this
    omega
  unfold word
  rw [e, if_neg hn]
  exact digs_head _ 7
theorem len_le {α : Type} [DecidableEq α] : ∀ (l D : List α), l.Nodup → (∀ x ∈ l, x ∈ D) → l.length ≤ D.length
  | [], _, _, _ => Nat.zero_le _
  | x :: l, D, hn, hs => by
    obtain ⟨h1, h2⟩ := List.nodup_cons.mp hn
    have hx : x ∈ D := hs x (List.mem_cons_self ..)
    have ih := len_le l (D.erase x) h2 fun y hy => by
      have hne : y ≠ x := fun e => h1 (e ▸ hy)
      exact (List.mem_erase_of_ne hne).2 (hs y (List.mem_cons_of_mem _ hy))
    have he := List.length_erase_of_mem hx
    have hpos : 0 < D.length := List.length_pos_of_mem hx
    rw [List.length_cons]
    omega
/-- of 24 numbers of one rest by 8 that follow one another, one's word is not yet there -/
theorem word_new (n : Int) (found : List (List Nat)) (h : found.length ≤ 23) : ∃ t : Nat, word (n + t) ∉ found := by
  apply Classical.byContradiction
  intro hc
  have hall : ∀ t : Nat, word (n + t) ∈ found := fun t => Classical.byContradiction fun h => hc ⟨t, h⟩
  have nd : ((List.range 24).map fun j => word (n + (((7 - n) % 8).toNat + 8 * j : Nat))).Nodup := by
    rw [List.nodup_iff_pairwise_ne, List.pairwise_map]
    refine List.Pairwise.imp_of_mem (R := (· ≠ ·)) ?_ (List.nodup_iff_pairwise_ne.mp List.nodup_range)
    intro a b ha hb hab e
    have ha := List.mem_range.mp ha
    have hb := List.mem_range.mp hb
    have h1 := word_long (n := n + (((7 - n) % 8).toNat + 8 * a : Nat)) (by omega)
    have h2 := word_long (n := n + (((7 - n) % 8).toNat + 8 * b : Nat)) (by omega)
    rw [e, h2] at h1
    have h3 := Option.some.inj h1
    omega
  have := len_le _ found nd fun x hx => by
    obtain ⟨j, _, e⟩ := List.mem_map.mp hx
    rw [← e]
    exact hall _
  rw [List.length_map, List.length_range] at this
  omega
end Wd
/-! sets of texts that can be walked; StopIteration where something is handled -/
namespace Rs
open PySem PySem.Spec PyProof.Rows L2 HotX
/-! ### StopIteration, whatever is handled -/
/-- nothing is handled, or an exception without a context -/
def Stp (A : Around) (h : Heap) : Prop := A.handled = none ∨ ∃ x1, HotAt A x1 h
theorem Stp.kept {A : Around} {h h' : Heap} (c : Stp A h) (k : ∀ b o, h.get? b = some o → h'.get? b = some o) : Stp A h' := by
  rcases c with c | ⟨x1, c1, o, vs, c2, c3⟩
  · exact .inl c
  · exact .inr ⟨x1, c1, o, vs, k _ _ c2, c3⟩
section
variable {prog : Program} {w : World} {A : Around} {E : Value → Shared → Prop} {s : Shared}
theorem raise_any {α : Type} {a : Addr} {oe : Obj} {vs : Array Value} {Q : α → Shared → Prop} (c : Stp A s.heap) (hx : ∀ x1, HotAt A x1 s.heap → x1 ≠ a) (ha : s.heap.get? a = some oe) (da : oe.data = .fields vs) (hi : 2 < vs.size)
    (hE : ∀ h', (∀ b o, b ≠ a → s.heap.get? b = some o → h'.get? b = some o) → (∃ o, h'.get? a = some o ∧ o.cls = oe.cls) → E (.ref a) { s with heap := h' }) : wpAny (model prog w) A (raiseNew (.ref a) : Sem α) Q E s := by
  rcases c with c | ⟨x1, hot⟩
  · unfold raiseNew
    refine wpAny_bind (wpAny_handled ?_)
    rw [c]
    refine wpAny_bind (wpAny_pure (wpAny_throw ?_))
    exact hE s.heap (fun b o _ e => e) ⟨oe, ha, rfl⟩
  · refine raiseNew_hot hot (hx x1 hot) ha da hi (hE _ (fun b o hb e => ?_) ⟨_, Heap.get?_update_self _ ha (Obj.isFreed_of_fields (Obj.data_mapFields da _)), Obj.cls_mapFields ..⟩)
    rw [Heap.get?_update_other _ _ (Ne.symm hb)]
    exact e
/-- a new StopIteration is raised -/
theorem stop_any {α : Type} {Q : α → Shared → Prop} (c : Stp A s.heap)
    (hE : ∀ h' e, (∀ b o, s.heap.get? b = some o → h'.get? b = some o) → (∃ o, h'.get? e = some o ∧ o.cls = .type "StopIteration") → E (.ref e) { s with heap := h' }) :
    wpAny (model prog w) A (newExc (.type "StopIteration") [] >>= fun e => (raiseNew e : Sem α)) Q E s := by
  refine wpAny_bind ?_
  simp only [newExc, newTuple]
  refine wpAny_bind (wpAny_newObj_type ?_ (by size_fits))
  refine wpAny_bind (m := firstArgMember _ _) (wpAny_of_eq (a := Value.none) (by first | rfl | (simp only [firstArgMember]; rfl)) ?_)
  refine wpAny_newObj_type ?_ (by size_fits)
  have k2 : ∀ {h : Heap} {o1 o2 : Obj} {b : Addr} {o : Obj}, h.get? b = some o → ((h.push o1).push o2).get? b = some o := fun e => Heap.get?_push_of_some _ (Heap.get?_push_of_some _ e)
  refine raise_any (c.kept fun b o e => k2 e) (fun x1 hot => ?_) (Heap.get?_push_size _ rfl) rfl (by first | (simp; done) | (simp; omega) | (simp only [Array.size_append]; simp; omega)) fun h' hk he => ?_
  · rcases c with c | ⟨x2, c1, o, vs, c2, c3⟩
    · have q := hot.1
      rw [c] at q
      cases q
    · have q := hot.1
      rw [c1] at q
      have q2 := Value.ref.inj (Option.some.inj q)
      rw [← q2]
      exact Nat.ne_of_lt (Heap.lt_size (Heap.get?_push_of_some _ c2))
  · exact hE h' _ (fun b o e => hk b o (Nat.ne_of_lt (Heap.lt_size (Heap.get?_push_of_some _ e))) (k2 e)) he
/-! ### a list's iterator at its end -/
theorem listiter_end {it l : Addr} {i : Nat} {items : Array Value} {Q : PySem.Fin → Shared → Prop} (c : Stp A s.heap) (hit : s.heap.IsListIter it l i) (hl : s.heap.IsList l items) (hx : items[i]? = none) (hh : ∀ x1, HotAt A x1 s.heap → x1 ≠ it)
    (hE : ∀ h' e, Heap.ExtBut it s.heap h' → (∃ o, h'.get? e = some o ∧ o.cls = .type "StopIteration") → E (.ref e) { s with heap := h' }) :
    wpAny (model prog w) A (Builtin.«list_iterator.__next__» ⟨[.ref it], []⟩) Q E s := by
  obtain ⟨o, ho, hc, hd⟩ := id hit
  obtain ⟨ol, hol, _, nl, hdl⟩ := hl
  show wpAny _ _ (field (.ref it) 0 >>= _) _ _ s
  refine wpAny_bind (wpAny_field ho hd (x := .ref l) rfl ?_)
  show wpAny _ _ (if (Value.ref l == Value.none) = true then _ else _) _ _ s
  rw [if_neg (show ¬ ((Value.ref l == Value.none) = true) from Bool.false_ne_true)]
  show wpAny _ _ (field (.ref it) 1 >>= _) _ _ s
  refine wpAny_bind (wpAny_field ho hd (x := .int i 0) rfl ?_)
  show wpAny _ _ (seqItems? (.ref l) >>= _) _ _ s
  refine wpAny_bind (wpAny_seqItems hol hdl ?_)
  simp only [Int.toNat_natCast, hx]
  refine wpAny_bind (wpAny_rule (wpAny_bind (wpAny_setField ho hd (by simp) ?_)))
  have sb : Heap.SameBut it s.heap (s.heap.update it (Obj.mapFields (·.setIfInBounds 0 Value.none))) := Heap.SameBut.update ..
  refine stop_any ?_ fun h' e hk he => hE h' e (fun b o hb q => hk b o (sb.extBut b o hb q)) he
  rcases c with c | ⟨x1, hot⟩
  · exact .inl c
  · obtain ⟨c1, o2, vs, c2, c3⟩ := id hot
    exact .inr ⟨x1, c1, o2, vs, sb.extBut _ _ (hh x1 hot) c2, c3⟩
end
end Rs
/-! sets of texts that can be walked -/
namespace Rs
open PySem PySem.Spec PyProof.Rows L2 HotX
def txOf (v : Value) : Str := match v with
  | .str x _ => x
  | _ => Str.empty
def tx (e : Int × Value) : Str := txOf e.2
def GoodT (w : World) (e : Int × Value) : Prop := ∃ x tk, e.2 = Value.str x tk ∧ e.1 = hashStr w x
/-- a set's entries and table: texts, none twice, its table can be walked -/
structure TabT (w : World) (es : Array (Int × Value)) (t : SetTable) : Prop where
  good : ∀ e ∈ es.toList, GoodT w e
  nd : (es.toList.map tx).Nodup
  bd : es.size < scanBound
  fit : t.fits es.size = true
  ris : Ris t.place.toList
  led : w.params.followText "set-order" = true ∨ t.led = true
/-- the set of texts at a: M its members, no more than n -/
def SetT (w : World) (h : Heap) (a : Addr) (M : Str → Prop) (n : Nat) : Prop :=
  ∃ o es ep t, h.get? a = some o ∧ o.ExactSet ∧ o.data = .set es ep t ∧ TabT w es t ∧ (∀ x, M x ↔ x ∈ es.toList.map tx) ∧ es.size ≤ n
section
variable {P : Program} {w : World} {h h' : Heap} {a : Addr} {M : Str → Prop} {n : Nat}
theorem SetT.at (R : SetT w h a M n) (k : ∀ o, h.get? a = some o → h'.get? a = some o) : SetT w h' a M n := by
  obtain ⟨o, es, ep, t, ho, r⟩ := R
  exact ⟨o, es, ep, t, k o ho, r⟩
theorem SetT.more {M' : Str → Prop} {m : Nat} (R : SetT w h a M n) (e : ∀ x, M' x ↔ M x) (hm : n ≤ m) : SetT w h a M' m := by
  obtain ⟨o, es, ep, t, ho, hx, hd, T, hM, hn⟩ := R
  exact ⟨o, es, ep, t, ho, hx, hd, T, fun x => (e x).trans (hM x), Nat.le_trans hn hm⟩
theorem goodT_is {e : Int × Value} (g : GoodT w e) (x : Str) : (strKind P w).is x e.2 = true ↔ tx e = x := by
  obtain ⟨y, tk, h1, _⟩ := g
  unfold tx
  rw [h1]
  show ((y == x) = true) ↔ y = x
  exact beq_iff_eq
theorem goodT_elems {l : List (Int × Value)} (g : ∀ e ∈ l, GoodT w e) : ElemsOf (strKind P w) l := fun e he => by
  obtain ⟨x, tk, h1, h2⟩ := g e he
  refine ⟨⟨x, ?_, h2⟩, by rw [h1] <;> rfl⟩
  rw [goodT_is ⟨x, tk, h1, h2⟩]
  unfold tx
  rw [h1]
  rfl
theorem goodT_mem {l : List (Int × Value)} (g : ∀ e ∈ l, GoodT w e) (x : Str) : x ∈ l.map tx ↔ ∃ e ∈ l, (strKind P w).is x e.2 = true := by
  rw [List.mem_map]
  exact ⟨fun ⟨e, he, q⟩ => ⟨e, he, (goodT_is (g e he) x).2 q⟩, fun ⟨e, he, q⟩ => ⟨e, he, (goodT_is (g e he) x).1 q⟩⟩
end
section
variable {P : Program} {w : World} {A : Around} {E : Value → Shared → Prop} {s : Shared} {a : Addr} {M : Str → Prop} {n : Nat}
/-- the new entries are stored; the table may be laid anew -/
theorem setT_tail {g : Bool → Sem Unit} (hg : ∀ (b : Bool) (s₁ : Shared) (Q' : Unit → Shared → Prop), Q' () s₁ → wpAny (model P w) A (g b) Q' E s₁)
    {o : Obj} {es es1 : Array (Int × Value)} {ep : Nat} {t t2 : SetTable} (ho : s.heap.get? a = some o) (hex : o.ExactSet) (hd : o.data = .set es ep t) (T : TabT w es1 t2) {M' : Str → Prop} (hM : ∀ x, M' x ↔ x ∈ es1.toList.map tx)
    {wasDummy : Bool} {R : Option Bool → Shared → Prop} (hR : ∀ h', Heap.SameBut a s.heap h' → SetT w h' a M' es1.size → R (some true) { s with heap := h' }) :
    wpAny (model P w) A (do
        storeSet a es1 t2
        if (!wasDummy && t2.tooFull) = true then do
            g (relayAll t2 es1 (SetTable.grown es1.size)).2.2
            storeSet a (relayAll t2 es1 (SetTable.grown es1.size)).1 (relayAll t2 es1 (SetTable.grown es1.size)).2.1
            pure (some true)
          else pure (some true)) R E s := by
  refine wpAny_bind (wpAny_storeSet_of ho hd ?_ (fits_of_scanBound T.bd))
  have st1 := store_at (es' := es1) (t' := t2) ho hd
  have sb1 := Heap.SameBut.update s.heap a (Obj.putSet es1 t2)
  split
  · have pm := relayAll_perm t2 es1 (SetTable.grown es1.size)
    have rf := relayAll_fits t2 es1 (SetTable.grown es1.size)
    have rr := relayAll_ris t2 es1 (SetTable.grown es1.size)
    have rl := relayAll_led t2 es1 (SetTable.grown es1.size)
    generalize relayAll t2 es1 (SetTable.grown es1.size) = Z at pm rf rr rl ⊢
    obtain ⟨es2, t3, gave⟩ := Z
    dsimp only at pm rf rr rl ⊢
    have sz : es2.size = es1.size := by rw [← Array.length_toList, pm.length_eq, Array.length_toList]
    have T2 : TabT w es2 t3 := ⟨fun e he => T.good e (pm.mem_iff.mp he), (pm.map tx).nodup_iff.mpr T.nd, by rw [sz]; exact T.bd, rf, rr, T.led.imp id fun z => by rw [rl]; exact z⟩
    refine wpAny_bind (hg _ _ _ ?_)
    refine wpAny_bind (wpAny_storeSet_of st1 rfl ?_ (fits_of_scanBound T2.bd))
    have st2 := store_at (es' := es2) (t' := t3) st1 rfl
    exact wpAny_pure (hR _ (sb1.trans (Heap.SameBut.update _ a _)) ⟨_, es2, _, t3, st2, hex, rfl, T2, fun x => (hM x).trans (pm.map tx).mem_iff.symm, Nat.le_of_eq sz⟩)
  · exact wpAny_pure (hR _ sb1 ⟨_, es1, _, t2, st1, hex, rfl, T, hM, Nat.le_refl _⟩)
/-- a text is put in -/
theorem setT_put {x : Str} {tk : Tok} {Q : Bool → Shared → Prop} (R : SetT w s.heap a M n) (room : n + 1 < scanBound)
    (hQ : ∀ b h', Heap.SameBut a s.heap h' → SetT w h' a (fun y => M y ∨ y = x) (n + 1) → Q b { s with heap := h' }) :
    wpAny (model P w) A (setAddHashed a (.str x tk) ((strKind P w).hash x)) Q E s := by
  obtain ⟨o, es, ep, t, ho, hex, hd, T, hM, hn⟩ := R
  have key : (strKind P w).is x (.str x tk) = true := by
    show ((x == x) = true)
    exact beq_self_eq_true x
  have sc : (Value.str x tk).scannable = true := rfl
  have el : ElemsOf (strKind P w) es.toList := goodT_elems T.good
  unfold setAddHashed setAddHashedIn
  refine wpAny_holding (wpAny_bind (wpAny_setState_of ho hd T.fit ?_))
  dsimp only
  rw [byScan_of sc T.bd el]
  simp only [↓reduceIte]
  unfold setAddByScan
  refine wpAny_bind ?_
  refine wpAny_bind (wpAny_rule ?_)
  refine wpAny_bind (wpAny_setScan_of key ho hd T.fit el ?_)
  cases hf : List.findIdx? (fun e => (strKind P w).is x e.2) es.toList with
  | some j =>
    dsimp only
    obtain ⟨hj, pj, _⟩ := List.findIdx?_eq_some_iff_getElem.mp hf
    have hin : M x := (hM x).2 ((goodT_mem (P := P) T.good x).2 ⟨es.toList[j], List.getElem_mem hj, pj⟩)
    exact wpAny_pure (wpAny_pure (hQ _ s.heap (Heap.SameBut.refl a s.heap) ⟨o, es, ep, t, ho, hex, hd, T, fun y => ⟨fun z => z.elim (hM y).1 fun e => e ▸ (hM x).1 hin, fun z => .inl ((hM y).2 z)⟩, Nat.le_succ_of_le hn⟩))
  | none =>
    dsimp only
    have nin : x ∉ es.toList.map tx := fun z => by
      obtain ⟨e, he, q⟩ := (goodT_mem (P := P) T.good x).1 z
      have c := List.findIdx?_eq_none_iff.mp hf e he
      rw [q] at c
      cases c
    have gw : ∀ (b : Bool) {s₁ : Shared} {Q' : Unit → Shared → Prop}, Q' () s₁ → wpAny (model P w) A (match b with | true => rule "set.scan.the-table-gave-way" | false => pure ()) Q' E s₁ :=
      fun b s₁ Q' q => by cases b <;> first | exact wpAny_pure q | exact wpAny_rule q
    have lp := layNew_perm t es ((strKind P w).hash x) (.str x tk)
    have lf := layNew_fits t es ((strKind P w).hash x) (.str x tk)
    have lr := layNew_ris t es ((strKind P w).hash x) (.str x tk) T.ris
    have ll := layNew_led t es ((strKind P w).hash x) (.str x tk)
    generalize layNew t es ((strKind P w).hash x) (.str x tk) = Z at lp lf lr ll ⊢
    obtain ⟨es1, t1, wasDummy, gave⟩ := Z
    dsimp only at lp lf lr ll ⊢
    rw [Array.toList_push] at lp
    have pc : es1.toList.Perm (((strKind P w).hash x, Value.str x tk) :: es.toList) := lp.trans (List.perm_append_singleton _ _)
    have pk : (es1.toList.map tx).Perm (x :: es.toList.map tx) := pc.map tx
    have sz : es1.size = es.size + 1 := by rw [← Array.length_toList, pc.length_eq, List.length_cons, Array.length_toList]
    have T1 : ∀ t', t'.fits es1.size = true → Ris t'.place.toList → t'.led = t.led → TabT w es1 t' := fun t' f r l =>
      ⟨fun e he => by
          rcases List.mem_cons.mp (pc.mem_iff.mp he) with z | z
          · rw [z]; exact ⟨x, tk, rfl, rfl⟩
          · exact T.good e z,
        pk.nodup_iff.mpr (List.nodup_cons.mpr ⟨nin, T.nd⟩), by rw [sz]; omega, f, r, T.led.imp id fun z => by rw [l]; exact z⟩
    have m1 : ∀ y, (M y ∨ y = x) ↔ y ∈ es1.toList.map tx := fun y => by
      rw [hM y, pk.mem_iff, List.mem_cons]
      exact Or.comm
    have fin : ∀ h', Heap.SameBut a s.heap h' → SetT w h' a (fun y => M y ∨ y = x) es1.size → Q true { s with heap := h' } := fun h' sb r => hQ true h' sb (r.more (fun _ => Iff.rfl) (by omega))
    refine wpAny_bind (gw _ ?_)
    split
    · refine wpAny_bind ?_
      rw [hashByValue_scannable 8 sc]
      refine wpAny_pure ?_
      refine setT_tail ?_ ho hex hd (T1 _ ?_ ?_ ?_) m1 ?_
      · intro b s₁ Q' q; cases b <;> first | exact wpAny_pure q | exact wpAny_rule q
      · first | (split <;> first | exact lf | exact SetTable.fits_plain_off lf) | exact lf
      · first | (split <;> exact lr) | exact lr
      · first | (split <;> exact ll) | exact ll
      · intro h' sb r; dsimp only; exact wpAny_pure (fin h' sb r)
    · refine wpAny_bind (wpAny_pure ?_)
      simp only [↓reduceIte]
      refine setT_tail ?_ ho hex hd (T1 _ lf lr ll) m1 ?_
      · intro b s₁ Q' q; cases b <;> first | exact wpAny_pure q | exact wpAny_rule q
      · intro h' sb r; dsimp only; exact wpAny_pure (fin h' sb r)
theorem setT_fresh {h : Heap} (ho : h.get? a = some { cls := .type "set", dict := none, data := .set #[] 0 (.fresh 0 0 (!w.params.followText "set-order")) }) : SetT w h a (fun _ => False) 0 :=
  ⟨_, #[], 0, _, ho, ⟨rfl, rfl, rfl⟩, rfl, ⟨fun e he => by simp at he, by simp, by decide, by rfl, List.Pairwise.nil, by
    show _ ∨ (!w.params.followText "set-order") = true
    cases w.params.followText "set-order"
    · exact .inr rfl
    · exact .inl rfl⟩, fun x => by simp, Nat.le_refl _⟩
/-- the walk that fills it -/
theorem setT_fill {I : Addr} {fp wr : List Addr} {G : Array GenState → Array GenState → Prop} {m : Nat} {Pv : Nat → Value → Prop} {St : Nat → Shared → Prop} {R : Result → Shared → Prop}
    (W : WalksS P w A.in1 I fp wr G m Pv St) (S : Addr) (hS : S ∉ fp) (xs : List Str) (hm : m = xs.length) (hb : xs.length + 1 < scanBound) (hv : ∀ i v, Pv i v → ∃ x t, xs[i]? = some x ∧ v = .str x t) :
    ∀ (k i : Nat) (s : Shared), m - i = k → i ≤ m → St i s → SetT w s.heap S (fun y => y ∈ xs.take i) i →
      (∀ s', Moved (S :: wr) G s s' → SetT w s'.heap S (fun y => y ∈ xs) m → R (.ok (.ret .none)) s') →
      codeAny (model P w) A (.builtin "set.update.loop" ⟨[.ref S, .ref I], []⟩) R s := by
  have Sw : S ∉ wr := fun h => hS (W.sub _ h)
  have sub : ∀ b ∈ wr, b ∈ S :: wr := fun b hb => List.mem_cons_of_mem _ hb
  intro k
  induction k with
  | zero =>
    intro i s hk hi st hT hR
    have e : i = m := by omega
    subst e
    refine codeAny_builtin F.entry_set_update_loop ?_
    rw [Around.under_plainId F.plain_set_update_loop _]
    show wpAny _ A.in1 (pyNext (.ref I) >>= _) _ _ s
    refine wpAny_bind (W.done s _ _ st fun s' hmv => ?_)
    show wpAny _ A.in1 (ret Value.none) _ _ s'
    have e2 : xs.take i = xs := List.take_of_length_le (by omega)
    rw [e2] at hT
    exact wpAny_pure (hR s' (hmv.mono sub) (hT.at fun o e => hmv.heap S o Sw e))
  | succ k ih =>
    intro i s hk hi st hT hR
    have lt : i < m := by omega
    refine codeAny_builtin F.entry_set_update_loop ?_
    rw [Around.under_plainId F.plain_set_update_loop _]
    show wpAny _ A.in1 (pyNext (.ref I) >>= _) _ _ s
    refine wpAny_bind (W.item i s _ _ lt st fun v s' hP st' hmv => ?_)
    obtain ⟨x, t, hx, rfl⟩ := hv i v hP
    have hT' : SetT w s'.heap S (fun y => y ∈ xs.take i) i := hT.at fun o e => hmv.heap S o Sw e
    show wpAny _ A.in1 (holding [Value.str x t] (setAdd S (.str x t)) >>= _) _ _ s'
    refine wpAny_bind (wpAny_holding ?_)
    unfold setAdd
    refine wpAny_holding ?_
    refine wpAny_bind ((strKind P w).pyHash (k := x) (by show ((x == x) = true); exact beq_self_eq_true x) ?_)
    refine setT_put (s := { s' with toks := s'.toks + 1 }) hT' (by omega) fun b h' sb hT2 => ?_
    have hT3 : SetT w h' S (fun y => y ∈ xs.take (i + 1)) (i + 1) := hT2.more (fun y => by
      rw [List.take_add_one, hx]
      simp [List.mem_append]) (Nat.le_refl _)
    refine wpAny_pure ⟨plainId_quiet F.plain_set_update_loop _, ih (i + 1) _ (by omega) lt (W.frame _ s' _ _ st' (Nat.le_succ _) fun b hb o e => ?_) hT3 fun s'' hm2 hT4 => ?_⟩
    · rw [sb.2 b (fun h : b = S => hS (by rw [← h]; exact hb))]; exact e
    · refine hR s'' (Moved.trans W.gtrans ((hmv.mono sub).then_heap (Nat.le_succ _) fun b o hb e => ?_) hm2) hT4
      rw [sb.2 b (fun h : b = S => hb (by rw [h]; exact List.mem_cons_self))]; exact e
end
end Rs
/-! set(a list of texts), its length, its members in order -/
namespace Rs
open PySem PySem.Spec PyProof.Rows L2 HotX
/-- what is handled stands at one of px -/
def StpIn (A : Around) (px : List Addr) (h : Heap) : Prop := A.handled = none ∨ ∃ x1, x1 ∈ px ∧ HotAt A x1 h
theorem Stp.in_ {A : Around} {h : Heap} (c : Stp A h) : ∃ px : List Addr, (∀ b ∈ px, ∃ o, h.get? b = some o) ∧ StpIn A px h := by
  rcases c with c | ⟨x1, c1, o, vs, c2, c3⟩
  · exact ⟨[], fun b hb => by simp at hb, .inl c⟩
  · exact ⟨[x1], fun b hb => ⟨o, by rw [List.mem_singleton.mp hb]; exact c2⟩, .inr ⟨x1, List.mem_singleton.mpr rfl, c1, o, vs, c2, c3⟩⟩
theorem StpIn.stp {A : Around} {px : List Addr} {h : Heap} (c : StpIn A px h) : Stp A h := c.imp id fun ⟨x1, _, c1⟩ => ⟨x1, c1⟩
theorem StpIn.at {A : Around} {px : List Addr} {h h' : Heap} (c : StpIn A px h) (k : ∀ b ∈ px, ∀ o, h.get? b = some o → h'.get? b = some o) : StpIn A px h' := by
  rcases c with c | ⟨x1, hx, c1, o, vs, c2, c3⟩
  · exact .inl c
  · exact .inr ⟨x1, hx, c1, o, vs, k x1 hx _ c2, c3⟩
theorem StpIn.only {A : Around} {px : List Addr} {h : Heap} (c : StpIn A px h) {it : Addr} (ni : it ∉ px) : ∀ x1, HotAt A x1 h → x1 ≠ it := fun x1 hot e => by
  rcases c with c | ⟨x2, hx, c1, _⟩
  · have q := hot.1
    rw [c] at q
    cases q
  · have q := hot.1
    rw [c1] at q
    rw [Value.ref.inj (Option.some.inj q), e] at hx
    exact ni hx
section
variable {P : Program} {w : World} {A : Around} {E : Value → Shared → Prop} {s : Shared}
theorem next_list_end {it l : Addr} {i : Nat} {items : Array Value} {px : List Addr} {Q : Option Value → Shared → Prop} (c : StpIn A px s.heap) (ni : it ∉ px) (hit : s.heap.IsListIter it l i) (hl : s.heap.IsList l items) (hx : items[i]? = none)
    (hQ : ∀ h', Heap.ExtBut it s.heap h' → Q none { s with heap := h' }) : wpAny (model P w) A (pyNext (.ref it)) Q E s := by
  unfold pyNext
  refine wpAny_bind (wpAny_attempt (wpAny_callSpecial?_slot (name := Str.ofString "__next__") hit.typeIs slot_listiter_next
    (wpAny_call_entry slot_listiter_next hit.typeIs entry_listiter_next (listiter_end c.stp hit hl hx (c.only ni) fun h' e hk he => ?_) (args_listiter_next _))))
  obtain ⟨o, ho, hc⟩ := he
  refine wpAny_bind (wpAny_isInstance (T := "StopIteration") (b := true) ⟨o, ho, hc⟩ isSubtype_stop ?_)
  exact wpAny_pure (hQ _ hk)
theorem nextOf_list_end {it l : Addr} {i : Nat} {items : Array Value} {px : List Addr} {Q : Value → Shared → Prop} (c : StpIn A px s.heap) (ni : it ∉ px) (hit : s.heap.IsListIter it l i) (hl : s.heap.IsList l items) (hx : items[i]? = none)
    (hE : ∀ h' e, Heap.ExtBut it s.heap h' → (∃ o, h'.get? e = some o ∧ o.cls = .type "StopIteration") → E (.ref e) { s with heap := h' }) : wpAny (model P w) A (Builtin.SmallTypes.nextOf (.ref it)) Q E s := by
  unfold Builtin.SmallTypes.nextOf
  exact wpAny_bind (wpAny_callSpecial?_slot (name := Str.ofString "__next__") hit.typeIs slot_listiter_next
    (wpAny_call_entry slot_listiter_next hit.typeIs entry_listiter_next (listiter_end c.stp hit hl hx (c.only ni) hE) (args_listiter_next _)))
/-- a list walked, whatever is handled -/
theorem walks_list {I l : Addr} {px : List Addr} (hne : l ≠ I) (ni : I ∉ px) (items : Array Value) :
    Walks P w A I (I :: l :: px) [I] items.size (fun i v => items[i]? = some v) (fun i h => h.IsListIter I l i ∧ h.IsList l items ∧ StpIn A px h) where
  sub := fun b hb => by simp at hb; simp [hb]
  frame := fun _ _ _ st hk => ⟨st.1.at fun o e => hk I (by simp) o e, st.2.1.at fun o e => hk l (by simp) o e, st.2.2.at fun b hb o e => hk b (by simp [hb]) o e⟩
  item := fun i s Q E hi st hQ => by
    refine wpAny_pyNext_list_item st.1 st.2.1 (x := items[i]) (by simp [hi]) fun h' hit' sb => ?_
    exact hQ _ h' s.toks (by simp [hi]) ⟨hit', st.2.1.extBut sb.extBut hne, st.2.2.at fun b hb o e => sb.extBut b o (fun q => ni (q ▸ hb)) e⟩ fun b o hb e => sb.extBut b o (fun h => hb (by simp [h])) e
  done := fun s Q E st hQ => next_list_end st.2.2 ni st.1 st.2.1 (by simp) fun h' he => hQ h' s.toks fun b o hb e => he b o (fun h => hb (by simp [h])) e
  self := fun _ _ _ _ st hQ => wpAny_pyIter_listiter st.1 hQ
theorem strs_get : ∀ {us : List Value} {xs : List Str}, StrsAre us xs → ∀ (i : Nat) (v : Value), us[i]? = some v → ∃ x t, xs[i]? = some x ∧ v = .str x t
  | _, _, .nil, i, v, h => by simp at h
  | _, _, .cons x t r, 0, v, h => by simp at h; exact ⟨x, t, rfl, h.symm⟩
  | _, _, .cons x t r, i + 1, v, h => by
    simp only [List.getElem?_cons_succ] at h ⊢
    exact strs_get r i v h
theorem strs_len : ∀ {us : List Value} {xs : List Str}, StrsAre us xs → us.length = xs.length
  | _, _, .nil => rfl
  | _, _, .cons x t r => by rw [List.length_cons, List.length_cons, strs_len r]
abbrev newSet (w : World) : Obj := { cls := .type "set", dict := none, data := .set #[] 0 (.fresh 0 0 (!w.params.followText "set-order")) }
/-- set(xs) -/
theorem call_setT {l : Addr} {items : Array Value} {xs : List Str} {Q : Value → Shared → Prop} (c : Stp A s.heap) (hl : s.heap.IsList l items) (hi : StrsAre items.toList xs) (hb : xs.length + 1 < scanBound)
    (h : ∀ (h' : Heap) (tk : Nat), SetT w h' s.heap.objs.size (fun y => y ∈ xs) xs.length → (∀ b o, s.heap.get? b = some o → h'.get? b = some o) → Q (.ref s.heap.objs.size) { s with heap := h', toks := tk }) :
    wpAny (model P w) A (call (.type "set") [.ref l]) Q E s := by
  have isz : items.size = xs.length := by rw [← Array.length_toList]; exact strs_len hi
  obtain ⟨c0, tl, hmro⟩ := F.called_set.mro
  have hmade := F.called_set.made
  have hsub := F.called_set.sub
  refine wpAny_call (codeAny_of_tree ?_)
  show wpAny _ _ (callAny (.type "set") _) _ _ _
  refine wpAny_pure ⟨Code.quiet_builtin _ (by decide +kernel), codeAny_builtin F.entry_type_call ?_⟩
  rw [Around.under_plain (weight_type_call_type "set" [.ref l] []) rfl]
  have h1 := F.called_set.notType
  have h2 := F.called_set.canCreate
  have hct := F.typeCall_set_1 (.ref l)
  repeat (any_goals (first | assumption | wp_step))
  refine codeAny_mono (code_set_led1 (.ref l) (E := E) (Q₁ := fun obj s₁ => obj = .ref s.heap.objs.size ∧ s₁ = { s with heap := s.heap.push (newSet w) }) ⟨rfl, rfl⟩) fun r s₁ hr => ?_
  cases r with
  | error e => exact hr
  | ok fl =>
    cases fl with
    | ret obj =>
      obtain ⟨rfl, rfl⟩ := hr
      have hS : (s.heap.push (newSet w)).get? s.heap.objs.size = some (newSet w) := Heap.get?_push_size _ rfl
      have hT : Shared.TypeIs { s with heap := s.heap.push (newSet w) } (.ref s.heap.objs.size) "set" := ⟨_, hS, rfl⟩
      have hli := F.called_set.init.lookup
      have hbi := F.called_set.init.bind (.ref s.heap.objs.size)
      repeat (any_goals (first | assumption | wp_step))
      refine codeAny_mono (codeAny_call_builtin (R := wants (fun r s₂ => r = .none ∧ ∃ h' tk, s₂ = { s with heap := h', toks := tk } ∧ SetT w h' s.heap.objs.size (fun y => y ∈ xs) xs.length ∧
          (∀ b o, s.heap.get? b = some o → h'.get? b = some o)) E) F.called_set.init.plain F.entry_set_init (check_set_init_1 hT ?_)) fun r₂ s₂ hr₂ => ?_
      · obtain ⟨ol, hol, hcl, nl, hdl⟩ := hl
        obtain ⟨ocls, odict, odata, oslots⟩ := ol
        simp only at hcl hdl
        subst hcl; subst hdl
        have hol' : (s.heap.push (newSet w)).get? l = some { cls := .type "list", dict := odict, data := .seq items nl, slots := oslots } := Heap.get?_push_of_some _ hol
        have hsls := F.sub_list_set
        have hslf := F.sub_list_frozenset
        have hne : (Value.type "list" == Value.type "dict") = false := by decide
        have hl1 : (s.heap.push (newSet w)).IsList l items := ⟨_, hol', rfl, nl, rfl⟩
        unfold Builtin.«set.__init__» noKeywords Builtin.Frozenset.updateFrom
        generalize hPI : pyIter = PI
        wp_walk
        subst hPI
        refine wpAny_pyIter_list hl1 ?_
        refine wpAny_bind (wpAny_runValue ?_)
        obtain ⟨px, hpx, cx⟩ := c.in_
        have hlS : l < s.heap.objs.size := Heap.lt_size hol
        have hpl : ∀ b ∈ px, b < s.heap.objs.size := fun b hb => by
          obtain ⟨o, e⟩ := hpx b hb
          exact Heap.lt_size e
        have zI : (s.heap.push (newSet w)).objs.size = s.heap.objs.size + 1 := Heap.size_push ..
        have neI : l ≠ (s.heap.push (newSet w)).objs.size := by rw [zI]; exact Nat.ne_of_lt (Nat.lt_succ_of_lt hlS)
        have nI : (s.heap.push (newSet w)).objs.size ∉ px := fun q => by
          have := hpl _ q
          rw [zI] at this
          exact absurd this (Nat.not_lt_of_gt (Nat.lt_succ_self _))
        have Sf : s.heap.objs.size ∉ (s.heap.push (newSet w)).objs.size :: l :: px := by
          rw [zI]
          simp only [List.mem_cons, not_or]
          exact ⟨Nat.ne_of_lt (Nat.lt_succ_self _), Nat.ne_of_gt hlS, fun q => Nat.lt_irrefl _ (hpl _ q)⟩
        have k2 : ∀ b o, s.heap.get? b = some o → ((s.heap.push (newSet w)).push { cls := .type "list_iterator", data := .fields #[.ref l, .int 0 0] }).get? b = some o := fun b o e => Heap.get?_push_of_some _ (Heap.get?_push_of_some _ e)
        refine setT_fill ((walks_list neI nI items).toS) s.heap.objs.size Sf xs isz hb (fun i v hv => strs_get hi i v (by rw [Array.getElem?_toList]; exact hv)) (items.size - 0) 0 _ (by omega) (Nat.zero_le _)
          ⟨⟨_, Heap.get?_push_size _ rfl, rfl, rfl⟩, hl1.push _, ?hC⟩ ?hS0 ?hR
        case hC => exact StpIn.at (A := A) cx fun b _ o e => k2 b o e
        case hS0 =>
          have hg : ((s.heap.push (newSet w)).push { cls := .type "list_iterator", data := .fields #[.ref l, .int 0 0] }).get? s.heap.objs.size = some (newSet w) := Heap.get?_push_of_some _ hS
          exact (setT_fresh hg).more (fun y => by simp) (Nat.le_refl _)
        case hR =>
          intro s' hm hS'
          obtain ⟨h', g2, d', tk', os'⟩ := s'
          have eg : g2 = s.gens := hm.gens
          have ed : d' = s.drawn := hm.drawn
          have eo : os' = s.os := hm.os
          subst eg; subst ed; subst eo
          show wpAny _ _ _ _ _ _
          refine wpAny_pure ?_
          show wpAny _ _ (ret Value.none) _ _ _
          rw [isz] at hS'
          refine wpAny_pure ⟨rfl, h', tk', rfl, hS', fun b o e => ?_⟩
          have hb0 : b < s.heap.objs.size := Heap.lt_size e
          refine hm.heap b o ?_ (k2 b o e)
          rw [zI]
          simp only [List.mem_cons, List.mem_singleton, List.not_mem_nil, or_false, not_or]
          exact ⟨Nat.ne_of_lt hb0, Nat.ne_of_lt (Nat.lt_succ_of_lt hb0)⟩
      · cases r₂ with
        | error e => exact hr₂
        | ok fl₂ =>
          cases fl₂ with
          | ret r =>
            obtain ⟨rfl, h', tk, rfl, hS', hk'⟩ := hr₂
            repeat (any_goals (first | assumption | wp_step))
            exact h _ _ hS' hk'
          | _ => exact hr₂.elim
    | _ => exact hr.elim
end
end Rs
/-! len(set(xs)), sorted(set(xs)) over the layer -/
namespace Rs
open PySem PySem.Spec PyProof.Rows L2 HotX
section
variable {P : Program} {w : World} {A : Around} {E : Value → Shared → Prop} {s : Shared} {a : Addr}
theorem len_setT {xs : List Str} {n : Nat} {Q : Value → Shared → Prop} (R : SetT w s.heap a (fun y => y ∈ xs) n) (nd : xs.Nodup) (hn : n < 1000000)
    (h : Q (.int xs.length (s.toks + 1)) { s with toks := s.toks + 1 + 1 }) : wpAny (model P w) A (call (.builtin "len") [.ref a]) Q E s := by
  obtain ⟨o, es, ep, t, ho, hex, hd, T, hM, hz⟩ := R
  have l1 := Rg.len_le xs (es.toList.map tx) nd fun x hx => (hM x).1 hx
  have l2 := Rg.len_le (es.toList.map tx) xs T.nd fun x hx => (hM x).2 hx
  rw [List.length_map, Array.length_toList] at l1 l2
  have e : xs.length = es.size := Nat.le_antisymm l1 l2
  refine call_len_set ho hex hd T.fit (by omega) ?_
  rw [← e]
  exact h
theorem sorted_setT {xs : List Str} {n : Nat} {Q : Value → Shared → Prop} (R : SetT w s.heap a (fun y => y ∈ xs) n) (hh : A.handled = none) (h64 : n < 64)
    (hQ : ∀ (s' : Shared) (p : Addr) (out : Array Value) (c : Nat) (ys : List Str), (∀ b o, s.heap.get? b = some o → s'.heap.get? b = some o) → s'.gens = s.gens → s'.os = s.os → s.heap.objs.size ≤ p →
      s'.heap.get? p = some (seqObj "list" out c) → StrsAre out.toList ys → (∀ x, x ∈ ys ↔ x ∈ xs) → ys.length ≤ n → Q (.ref p) s') :
    wpAny (model P w) A (call (.builtin "sorted") [.ref a]) Q E s := by
  obtain ⟨o, es, ep, t, ho, hex, hd, T, hM, hz⟩ := R
  refine Calls.call_function_entry kind_sorted plain_sorted entry_sorted (args_sorted1 _) ?_
  unfold Builtin.«sorted»
  refine wpAny_bind (m := checkCount "sorted" 1 1 _) (wpAny_pure ?_)
  refine wpAny_bind (collect_set (A := A.in1) hh ⟨o, ho, hex.1, hd⟩ T.fit T.bd T.ris T.led fun s1 vs k1 hzs g1 o1 pm => ?_)
  have vl : vs.length ≤ n := by rw [pm.length_eq, List.length_map, Array.length_toList]; exact hz
  have vS : StrsAre vs (vs.map PyProof.Rows.strOf) := PyProof.Rows.strsAre_map vs fun v hv => by
    obtain ⟨e, he, q⟩ := List.mem_map.mp (pm.mem_iff.mp hv)
    obtain ⟨x, tk, h1, _⟩ := T.good e he
    exact ⟨x, tk, by rw [← q]; exact h1⟩
  have pk : (vs.map PyProof.Rows.strOf).Perm (es.toList.map tx) := by
    have q := pm.map PyProof.Rows.strOf
    rw [List.map_map] at q
    refine q.trans (List.Perm.of_eq (List.map_congr_left fun e he => ?_))
    obtain ⟨x, tk, h1, _⟩ := T.good e he
    show PyProof.Rows.strOf e.2 = tx e
    unfold tx
    rw [h1]
    rfl
  refine wpAny_bind (wpAny_newList ?_ (by rw [sizeLine_eq]; omega))
  have hoL : (s1.heap.push (seqObj "list" vs.toArray 0)).get? s1.heap.objs.size = some (seqObj "list" vs.toArray 0) := Heap.get?_push_size _ rfl
  refine wpAny_bind (wpAny_holding (wpAny_call_entry slot_list_sort ⟨_, hoL, rfl⟩ entry_list_sort (list_sort_treeK strKind_oneLt hoL vS.keysOf (fun v₁ v₂ rest e => keyKind_strs (by rw [← e]; exact vS)) (by omega) fun st' a1 a2 => ⟨_, rfl, ?_⟩) (args_list_sort _)))
  obtain ⟨ys, b1, b2, _⟩ := sorted_out_str vS a1 a2
  obtain ⟨c, hc⟩ := sortedHeap_at (vs := vs) (out := (arrOf st').map (·.2)) hoL
  have pn : ys.Perm (es.toList.map tx) := b2.trans pk
  refine wpAny_pure ⟨_, rfl, hQ _ s1.heap.objs.size _ c ys (fun b u e => ?_) g1 o1 hzs hc b1 (fun x => by rw [pn.mem_iff, ← hM x]) ?_⟩
  · have q := k1 b u e
    have hlt := Heap.lt_size q
    show (sortedHeap (s1.heap.push (seqObj "list" vs.toArray 0)) s1.heap.objs.size vs ((arrOf st').map (·.2))).get? b = some u
    rw [sortedHeap_old (Nat.ne_of_lt hlt) (by rw [size_push']; exact Nat.lt_succ_of_lt hlt)]
    exact Heap.get?_push_of_some _ q
  · rw [pn.length_eq, List.length_map, Array.length_toList]; exact hz
end
/-- nothing is handled, or the one that is has no context -/
def Ok' (X : Cx) : Prop := X.calm = true ∨ L2H.HotC X
theorem Ok'.stp {X : Cx} (c : Ok' X) {pins : List (Addr × Obj)} {σ : L2.St} {H : Hp} {s : Shared} (I : Inv X pins σ H s) : Stp X.A s.heap := by
  rcases c with c | c
  · exact .inl (I.ok.hd c)
  · exact .inr (c.at I)
/-- len(set(xs)) of texts that differ -/
def tLenS (K : PySem.W.Frag) (ta : TE) : TE := fun σ H Q => ta σ H fun x H1 => ∃ (l : Addr) (xs : List Str), x = .ref l ∧ SqL K H1 l (xs.map V.str) ∧ xs.Nodup ∧ xs.length ≤ 1000 ∧ Q (.int (xs.length : Nat)) H1
/-- sorted(set(xs)): a new list with the same members -/
def tSrtS (K : PySem.W.Frag) (ta : TE) : TE := fun σ H Q => ta σ H fun x H1 => ∃ (l : Addr) (xs : List Str), x = .ref l ∧ SqL K H1 l (xs.map V.str) ∧ xs.length < 64 ∧
  ∀ (ys : List Str) (p : Addr), (∀ x, x ∈ ys ↔ x ∈ xs) → ys.length ≤ xs.length → H1 p = none → Q (.ref p) (upd H1 p (.lst (ys.map V.str)))
section
variable {X : Cx} {a : Expr} {ta : TE} {p p2 q pos : Pos}
theorem pe_lenS (c : Ok' X) (hg : Gl X "len") (hm : X.mg "len" = none) (hg2 : Gl X "set") (hm2 : X.mg "set" = none) (ha : PE X a ta)
    (na : starEach [a] X.env = (false, eval a X.env) :: starEach [] X.env := by rfl) : PE X (.Call (.Name "len" p) [.Call (.Name "set" p2) [a] [] q] [] pos) (tLenS X.K ta) := by
  refine ⟨fun pins s σ H Q I h => ?_⟩
  refine Call_ (ld_blt I hg hm boot_len ?_)
  refine PyProof.Rows.callWith_builtin1 (PyProof.Rows.args_cons ?_ rfl) rfl rfl
  refine Call_ (ld_blt I hg2 hm2 boot_set ?_)
  refine PyProof.Rows.callWith_type1 (PyProof.Rows.args_cons (thn (ha.run pins s σ H _ I h) fun v s1 ⟨x, H1, I1, r1, q1⟩ => PyProof.Rows.args_nil ?_) na) na rfl
  obtain ⟨l, xs, rfl, hq, nd, hl, q1⟩ := q1
  cases r1
  obtain ⟨its, r, pl, hz⟩ := I1.list hq
  refine call_setT (c.stp I1) pl.isList (by simpa using r.strs) (by unfold scanBound; omega) fun h' tk hS hk => ?_
  refine PyProof.Rows.args_nil ?_
  have I2 : Inv X pins σ H1 { s1 with heap := h', toks := tk } := I1.kept hk
  exact len_setT hS nd (by omega) ⟨.int xs.length, H1, I2.tok _, ⟨_, rfl⟩, q1⟩
theorem pe_srtS (hc : X.calm = true) (hg : Gl X "sorted") (hm : X.mg "sorted" = none) (hg2 : Gl X "set") (hm2 : X.mg "set" = none) (ha : PE X a ta)
    (na : starEach [a] X.env = (false, eval a X.env) :: starEach [] X.env := by rfl) : PE X (.Call (.Name "sorted" p) [.Call (.Name "set" p2) [a] [] q] [] pos) (tSrtS X.K ta) := by
  refine ⟨fun pins s σ H Q I h => ?_⟩
  refine Call_ (ld_blt I hg hm (show bootBuiltins "sorted" = some (.builtin "sorted") by decide +kernel) ?_)
  refine PyProof.Rows.callWith_builtin1 (PyProof.Rows.args_cons ?_ rfl) rfl rfl
  refine Call_ (ld_blt I hg2 hm2 boot_set ?_)
  refine PyProof.Rows.callWith_type1 (PyProof.Rows.args_cons (thn (ha.run pins s σ H _ I h) fun v s1 ⟨x, H1, I1, r1, q1⟩ => PyProof.Rows.args_nil ?_) na) na rfl
  obtain ⟨l, xs, rfl, hq, hl, q1⟩ := q1
  cases r1
  obtain ⟨its, r, pl, hz⟩ := I1.list hq
  refine call_setT (.inl (I1.ok.hd hc)) pl.isList (by simpa using r.strs) (by unfold scanBound; omega) fun h' tk hS hk => ?_
  refine PyProof.Rows.args_nil ?_
  have I2 : Inv X pins σ H1 { s1 with heap := h', toks := tk } := I1.kept hk
  refine sorted_setT (s := { s1 with heap := h', toks := tk }) hS (I1.ok.hd hc) hl ?_
  generalize ({ s1 with heap := h', toks := tk } : Shared) = s2 at I2
  intro s' p out c ys k g o hp hg hi hm hl2
  have hlen : (ys.map V.str).length ≤ sizeLine := by rw [List.length_map, sizeLine_eq]; omega
  have hn : H1 p = none := I2.hok.fresh hp
  have J : Inv X pins σ (upd H1 p (.lst (ys.map V.str))) { s2 with heap := s'.heap, gens := s'.gens, drawn := s'.drawn, toks := s'.toks } :=
    I2.call (ch := []) (Un.laid k hp hn) (I2.hok.laid k hp ⟨hlen, out.toList, c, vals_of_strs hi, hg⟩) (by rw [g]; exact I2.bare) (fun _ z => nomatch z)
  have e : s' = { s2 with heap := s'.heap, gens := s'.gens, drawn := s'.drawn, toks := s'.toks } := by
    cases s'
    cases s2
    cases o
    rfl
  rw [e]
  exact ⟨.ref p, _, J, rfl, q1 ys p hm hl2 hn⟩
end
end Rs
/-! within an except suite: a tuple to names, zip of two lists of one length -/
namespace Rs
open PySem PySem.Spec PyProof.Rows L2 HotX L2H
section
variable {P : Program} {w : World} {A : Around} {E : Value → Shared → Prop} {s : Shared}
/-- a tuple's iterator at its end -/
theorem next_tup_end {it t : Addr} {i : Nat} {items : Array Value} {px : List Addr} {Q : Option Value → Shared → Prop} (c : StpIn A px s.heap) (ni : it ∉ px) (hit : IsTupIter s.heap it t i) (ht : IsTup s.heap t items) (hx : items[i]? = none)
    (hQ : ∀ h', Heap.ExtBut it s.heap h' → Q none { s with heap := h' }) : wpAny (model P w) A (pyNext (.ref it)) Q E s := by
  obtain ⟨o, ho, hc, hd⟩ := id hit
  obtain ⟨ol, hol, _, nl, hdl⟩ := ht
  unfold pyNext
  refine wpAny_bind (wpAny_attempt (wpAny_callSpecial?_slot (name := Str.ofString "__next__") hit.typeIs PySem.F.slot_tuple_iterator_next
    (wpAny_call_entry PySem.F.slot_tuple_iterator_next hit.typeIs PySem.F.entry_tuple_iterator_next ?_ (PySem.F.args_tuple_iterator_next_1 _))))
  show wpAny _ _ (field (.ref it) 0 >>= _) _ _ s
  refine wpAny_bind (wpAny_field ho hd (x := .ref t) rfl ?_)
  show wpAny _ _ (if (Value.ref t == Value.none) = true then _ else _) _ _ s
  rw [if_neg (show ¬ ((Value.ref t == Value.none) = true) from Bool.false_ne_true)]
  show wpAny _ _ (field (.ref it) 1 >>= _) _ _ s
  refine wpAny_bind (wpAny_field ho hd (x := .int i 0) rfl ?_)
  show wpAny _ _ (seqItems? (.ref t) >>= _) _ _ s
  refine wpAny_bind (wpAny_seqItems hol hdl ?_)
  simp only [Int.toNat_natCast, hx]
  refine wpAny_bind (wpAny_rule (wpAny_bind (wpAny_setField ho hd (by simp) ?_)))
  have sb : Heap.SameBut it s.heap (s.heap.update it (Obj.mapFields (·.setIfInBounds 0 Value.none))) := Heap.SameBut.update ..
  have c2 : StpIn A px (s.heap.update it (Obj.mapFields (·.setIfInBounds 0 Value.none))) := c.at fun b hb o e => sb.extBut b o (fun q => ni (q ▸ hb)) e
  refine stop_any (show Stp A.in1 _ from c2.stp) fun h' e hk he => ?_
  obtain ⟨oe, hoe, hce⟩ := he
  refine wpAny_bind (wpAny_isInstance (T := "StopIteration") (b := true) ⟨oe, hoe, hce⟩ isSubtype_stop ?_)
  exact wpAny_pure (hQ _ fun b o hb q => hk b o (sb.extBut b o hb q))
theorem unpackItems_any {t : Addr} {items : Array Value} {Q : List Value → Shared → Prop} (c : Stp A s.heap) (ht : IsTup s.heap t items)
    (hQ : ∀ h', Heap.ExtBut s.heap.objs.size s.heap h' → Q items.toList { s with heap := h' }) : wpAny (model P w) A (unpackItems (.ref t) items.size none) Q E s := by
  have hlt : t ≠ s.heap.objs.size := by obtain ⟨o, ho, _⟩ := ht; exact Nat.ne_of_lt (Heap.lt_size ho)
  obtain ⟨px, hpx, cx⟩ := c.in_
  have ni : s.heap.objs.size ∉ px := fun q => by
    obtain ⟨o, e⟩ := hpx _ q
    exact Nat.lt_irrefl _ (Heap.lt_size e)
  unfold unpackItems
  refine wpAny_bind ?_
  · unfold notIterableAtAll
    refine wpAny_bind (wpAny_specialOf ht.typeIs PyProof.Rows.slot_tuple_iter.lookup ?_)
    refine wpAny_pure ?_
    simp only [Bool.false_eq_true, if_false]
    refine wpAny_bind (wpAny_holding (iter_tuple ht ?_))
    refine wpAny_bind (wpAny_holding (draw_tuple hlt items.size 0 _ _ ⟨_, Heap.get?_push_size _ rfl, rfl, rfl⟩ (ht.push _) (by omega) fun h₁ hit₁ hs₁ => ?_))
    have hall : List.take items.size (List.drop 0 items.toList) = items.toList := by
      rw [List.drop_zero]; exact List.take_of_length_le (by simp)
    rw [hall]
    rw [if_neg (by simp)]
    have ht₁ : IsTup h₁ t items := (ht.push _).extBut hs₁.extBut hlt
    have c1 : StpIn A px h₁ := cx.at fun b hb o e => hs₁.extBut b o (fun q => ni (q ▸ hb)) (Heap.get?_push_of_some _ e)
    refine wpAny_bind (wpAny_holding (next_tup_end (s := { s with heap := h₁ }) c1 ni hit₁ ht₁ (by simp) fun h₂ he₂ => ?_))
    simp only [Option.isSome_none, Bool.false_eq_true, if_false]
    refine wpAny_pure (hQ h₂ fun b o hb e => he₂ b o hb (hs₁.extBut b o hb (Heap.get?_push_of_some _ e)))
theorem assign_tup_any {env : Env} {elts : List Expr} {x1} {pos : Pos} {t : Addr} {items : Array Value} {Q : Unit → Shared → Prop} (c : Stp A s.heap) (ht : IsTup s.heap t items)
    (hn : (assignEach elts env).length = items.size) (hstar : (assignEach elts env).findIdx? (·.1) = none)
    (h : ∀ h', Heap.ExtBut s.heap.objs.size s.heap h' → wpAny (model P w) A (assignInOrder ((assignEach elts env).map (·.2)) items.toList) Q E { s with heap := h' }) :
    wpAny (model P w) A (assign (.Tuple elts x1 pos) env (.ref t)) Q E s := by
  rw [assign_Tuple]
  refine wpAny_bind (wpAny_standAt ?_)
  unfold unpack
  rw [hn, hstar]
  exact wpAny_bind (wpAny_holding (unpackItems_any c ht h))
/-- zip at the end of its first list -/
theorem zip_end_any {z TI TO i1 i2 l1 l2 : Addr} {k1 : Nat} {xs : Array Value} {a b : Value} {px : List Addr} {Q : Option Value → Shared → Prop} (c : StpIn A px s.heap) (nz : z ∉ px) (n1 : i1 ∉ px) (D : ZipApart z TI TO i1 i2 l1 l2)
    (hz : IsZip s.heap z TI TO .none) (hTI : IsPair s.heap TI (.ref i1) (.ref i2)) (hTO : IsPair s.heap TO a b) (h1 : s.heap.IsListIter i1 l1 k1) (hl1 : s.heap.IsList l1 xs) (hx : xs[k1]? = none)
    (hQ : ∀ h', (∀ c o, c ≠ z → c ≠ i1 → s.heap.get? c = some o → h'.get? c = some o) → Q none { s with heap := h' }) : wpAny (model P w) A (pyNext (.ref z)) Q E s := by
  have hT : s.TypeIs (.ref z) "zip" := ⟨_, hz, rfl⟩
  unfold pyNext
  refine wpAny_bind (wpAny_attempt (wpAny_callSpecial?_slot (name := Str.ofString "__next__") hT PySem.F.slot_zip_next
    (wpAny_call_entry PySem.F.slot_zip_next hT PySem.F.entry_zip_next ?_ (PySem.F.args_zip_next_1 _))))
  show wpAny _ _ (field (.ref z) 2 >>= _) _ _ _
  refine wpAny_bind (wpAny_field hz rfl (x := .bool false) rfl ?_)
  show wpAny _ _ (field (.ref z) 3 >>= _) _ _ _
  refine wpAny_bind (wpAny_field hz rfl (x := .ref TI) rfl ?_)
  refine wpAny_bind (wpAny_seqItems hTI rfl ?_)
  show wpAny _ _ (Builtin.SmallTypes.ownedTupleIsFree (.ref z) >>= _) _ _ _
  refine wpAny_bind ?_
  unfold Builtin.SmallTypes.ownedTupleIsFree
  refine wpAny_bind (wpAny_field hz rfl (x := .none) rfl (wpAny_pure ?_))
  simp only [if_true]
  refine wpAny_bind (wpAny_rule ?_)
  refine wpAny_bind (wpAny_field hz rfl (x := .ref TO) rfl ?_)
  refine wpAny_bind (wpAny_setField_rec hz (by simp) fun h₁ hz₁ hs₁ => ?_)
  replace hz₁ : IsZip h₁ z TI TO .ellipsis := hz₁
  refine wpAny_bind ?_
  simp only [List.zipIdx_cons, List.zipIdx_nil, List.forIn_cons, List.forIn_nil]
  refine wpAny_bind (wpAny_bind (wpAny_onRaise ?_))
  show wpAny _ _ (Builtin.SmallTypes.nextOf (.ref i1) >>= _) _ _ _
  have c1 : StpIn A px h₁ := c.at fun b hb o e => hs₁.extBut b o (fun q => nz (q ▸ hb)) e
  refine wpAny_bind (nextOf_list_end (px := px) (show StpIn A.in1 px h₁ from c1) n1 (h1.extBut hs₁.extBut D.i1z) (hl1.extBut hs₁.extBut D.l1z) hx fun h₂ e hs₂ he => ?_)
  obtain ⟨oe, hoe, hce⟩ := he
  have hz₂ : IsZip h₂ z TI TO .ellipsis := hs₂ _ _ D.i1z.symm hz₁
  have hez : e ≠ z := fun x => by subst x; rw [hz₂] at hoe; cases hoe; simp at hce
  refine wpAny_setField_rec hz₂ (by simp) fun h₃ _ hs₃ => ?_
  refine wpAny_bind (wpAny_isInstance (T := "StopIteration") (b := true) ⟨oe, hs₃.extBut _ _ hez hoe, hce⟩ isSubtype_stop ?_)
  exact wpAny_pure (hQ _ fun c o z1 z3 x => hs₃.extBut _ _ z1 (hs₂ _ _ z3 (hs₁.extBut _ _ z1 x)))
end
section
variable {X : Cx} {pos : Pos}
/-- (a, b, ..) = a tuple of that length, whatever is handled -/
theorem pg_tupS {es : List Expr} {k : Nat} {t : TGs} {n : Nat} (c : Ok' X) (h : PGs X es t)
    (hn : (assignEach es X.env).length = n := by rfl) (hst : (assignEach es X.env).findIdx? (·.1) = none := by rfl) : PG X (.Tuple es k pos) (gTup X.K n t) := by
  refine ⟨fun pins s σ H v u Q I r hw => ?_⟩
  obtain ⟨a, xs, e1, hq, hl, hw⟩ := hw
  subst e1
  cases r
  obtain ⟨its, rv, ht, hz⟩ := I.tuple hq
  refine assign_tup_any (c.stp I) ht (by simp [hn, ← hl, rv.length]) hst fun h' hx => ?_
  have I1 : Inv X pins σ H { s with heap := h' } := I.kept (t' := s.toks) fun b o e => hx b o (Nat.ne_of_lt (Heap.lt_size e)) e
  exact h.run pins _ σ H xs _ Q I1 (by simpa using rv) hw
end
/-- zip of two lists as it is walked there; it stops where the first list ends -/
def ItzH (K : PySem.W.Frag) (a b : Addr) : It :=
  ⟨fun i H => ∃ (xs ys : List V) (x y : V), SqL K H a xs ∧ SqL K H b ys ∧ xs[i]? = some x ∧ ys[i]? = some y,
    fun i H v H' => ∃ T x y, v = .ref T ∧ H T = none ∧ H' = upd H T (.tup [x, y]) ∧ (∀ xs, SqL K H a xs → xs[i]? = some x) ∧ ∀ ys, SqL K H b ys → ys[i]? = some y,
    fun i H => ∃ xs : List V, SqL K H a xs ∧ xs.length ≤ i⟩
theorem turn_zipH {P : Program} {w : World} {K : PySem.W.Frag} {elts : List Expr} {kk : Nat} {tpos : Pos} {a b z TI TO i1 i2 : Addr} (D : ZipApart z TI TO i1 i2 a b) :
    TurnH P w K (.Tuple elts kk tpos) (ItzH K a b) [z, TI, TO, i1, i2] z (fun i h => IsZip h z TI TO .none ∧ IsPair h TI (.ref i1) (.ref i2) ∧ (∃ x y, IsPair h TO x y) ∧ h.IsListIter i1 a i ∧ h.IsListIter i2 b i) where
  mem := (turn_zip (P := P) (w := w) (K := K) (elts := elts) (kk := kk) (tpos := tpos) D).mem
  obj := (turn_zip (P := P) (w := w) (K := K) (elts := elts) (kk := kk) (tpos := tpos) D).obj
  keep := (turn_zip (P := P) (w := w) (K := K) (elts := elts) (kk := kk) (tpos := tpos) D).keep
  item := by
    intro X hP hw hK hc i pins s σ H E I hf st hg
    subst hP hw hK
    obtain ⟨hz, hTI, ⟨x0, y0, hTO⟩, h1, h2⟩ := st
    obtain ⟨xs, ys, x, y, qx, qy, hx, hy⟩ := hg
    obtain ⟨its, rv, p1, _⟩ := I.list qx
    obtain ⟨its2, rv2, p2, _⟩ := I.list qy
    obtain ⟨u, hu, ru⟩ := rv.get hx
    obtain ⟨u2, hu2, ru2⟩ := rv2.get hy
    have lz : z < s.heap.objs.size := Heap.lt_size hz
    refine wpAny_pyNext_zip_item D hz hTI hTO h1 h2 p1.isList p2.isList (x := u) (y := u2) (by simpa using hu) (by simpa using hu2) fun h' z' TO' h1' h2' hT hsz hk => ?_
    refine ⟨_, rfl, wpAny_letOwnedTupleGo_zip (s := { s with heap := h' }) z' fun h'' z'' sb => ?_⟩
    have hT2 : h''.get? s.heap.objs.size = some { cls := .type "tuple", data := .seq #[u, u2] } := (sb.2 _ (Nat.ne_of_gt lz)).trans hT
    have new : ObjOk X.prog X.w (upd H s.heap.objs.size (.tup [x, y])) h'' s.heap.objs.size (.tup [x, y]) :=
      ⟨by show 2 ≤ sizeLine; decide, [u, u2], .cons ru (.cons ru2 .nil), ⟨_, hT2, rfl, _, rfl⟩⟩
    have kk2 : ∀ c o, c ∉ [z, TI, TO, i1, i2] → s.heap.get? c = some o → h''.get? c = some o := fun c o hb q => by
      simp only [List.mem_cons, List.not_mem_nil, or_false, not_or] at hb
      exact (sb.2 c hb.1).trans (hk c o hb.1 hb.2.2.1 hb.2.2.2.1 hb.2.2.2.2 q)
    have I1 : Inv X pins σ (upd H s.heap.objs.size (.tup [x, y])) { s with heap := h'' } := I.turnedNew (t' := s.toks) kk2 hf (Nat.le_refl _) new
    refine ⟨.ref s.heap.objs.size, _, I1, rfl, ⟨_, x, y, rfl, I.hok.fresh (Nat.le_refl _), rfl, fun l hl => by rw [I.list_inj hl qx]; exact hx, fun l hl => by rw [I.list_inj hl qy]; exact hy⟩, ⟨z'', ?_, ⟨u, u2, ?_⟩, ?_, ?_⟩, fun c hcm => ?_⟩
    · exact (sb.2 _ D.TIz).trans (hk _ _ D.TIz D.TITO D.TIi1 D.TIi2 hTI)
    · exact (sb.2 _ D.TOz).trans TO'
    · exact h1'.at fun o q => (sb.2 _ D.i1z).trans q
    · exact h2'.at fun o q => (sb.2 _ D.i2z).trans q
    · have hlt : c < s.heap.objs.size := by
        simp only [List.mem_cons, List.not_mem_nil, or_false] at hcm
        rcases hcm with q | q | q | q | q
        · rw [q]; exact lz
        · rw [q]; exact Heap.lt_size hTI
        · rw [q]; exact Heap.lt_size hTO
        · rw [q]; obtain ⟨_, e1, _⟩ := h1; exact Heap.lt_size e1
        · rw [q]; obtain ⟨_, e2, _⟩ := h2; exact Heap.lt_size e2
      rw [upd_ne (Nat.ne_of_lt hlt)]
      exact (hf c hcm).1
  done := by
    intro X hP hw hK hc i pins s σ H E I hf st hg
    subst hP hw hK
    obtain ⟨hz, hTI, ⟨x0, y0, hTO⟩, h1, h2⟩ := st
    obtain ⟨xs, qx, hend⟩ := hg
    obtain ⟨its, rv, p1, _⟩ := I.list qx
    have l1 := rv.length
    obtain ⟨p, ⟨hh, vs1, e1, c1⟩, hp⟩ := hc
    have gp := (I.pin p (List.mem_append_left _ hp)).1
    have np : ∀ b ∈ [z, TI, TO, i1, i2], b ∉ [p.1] := fun b hb q => by
      rw [List.mem_singleton] at q
      exact (hf b hb).2.2.2.2.2 p (List.mem_append_left _ hp) q.symm
    exact zip_end_any (px := [p.1]) (.inr ⟨p.1, List.mem_singleton.mpr rfl, hh, p.2, vs1, gp, e1, c1⟩) (np z (by simp)) (np i1 (by simp)) D hz hTI hTO h1 p1.isList (by simp; omega) fun h' hk =>
      ⟨rfl, I.turnedL (t' := s.toks) (ch := [z, TI, TO, i1, i2]) (fun c o hb q => hk c o (fun q' => hb (by simp [q'])) (fun q' => hb (by simp [q'])) q) hf⟩
  self := fun A i s Q E st h => wpAny_pyIter_zip st.1 h
def iZipH (K : PySem.W.Frag) (ta : TA) : TI := fun σ H R => ta σ H fun vs H1 => ∃ a b xs ys, vs = [.ref a, .ref b] ∧ SqL K H1 a xs ∧ SqL K H1 b ys ∧ R (ItzH K a b) H1
theorem pi_zipH {X : Cx} {e e2 : Expr} {ta : TA} {p pos tpos : Pos} {elts : List Expr} {kk : Nat} (hg : Gl X "zip") (hm : X.mg "zip" = none) (ha : PA X [e, e2] ta)
    (hs : starEach [e, e2] X.env = (false, eval e X.env) :: starEach [e2] X.env := by rfl) (hpl : (backTo pos (starEach [e2] X.env)).any (·.1) = false := by rfl) :
    PIH X (.Tuple elts kk tpos) (.Call (.Name "zip" p) [e, e2] [] pos) (iZipH X.K ta) := by
  refine ⟨fun pins s σ H R I h => ?_⟩
  refine Call_ (ld_blt I hg hm PyProof.Rows.boot_zip (PyProof.Rows.callWith_type1 (thn (ha.run pos pins s σ H _ I h) fun us s1 ⟨vs, H1, I1, r1, q1⟩ => ?_) hs hpl))
  obtain ⟨a, b, xs, ys, ex, qx, qy, q⟩ := q1
  subst ex
  cases r1 with
  | cons r rr =>
    cases rr with
    | cons r' rr =>
      cases rr
      cases r
      cases r'
      obtain ⟨its, rv, p1, _⟩ := I1.list qx
      obtain ⟨its2, rv2, p2, _⟩ := I1.list qy
      have la : a < s1.heap.objs.size := p1.lt
      have lb : b < s1.heap.objs.size := p2.lt
      refine call_zip_2 p1.isList p2.isList fun h' hz hTI hTO h1 h2 hsz hk => wpAny_pyIter_zip hz ?_
      have I2 : Inv X pins σ H1 { s1 with heap := h' } := I1.kept (t' := s1.toks) hk
      refine ⟨s1.heap.objs.size + 4, [s1.heap.objs.size + 4, s1.heap.objs.size + 2, s1.heap.objs.size + 3, s1.heap.objs.size, s1.heap.objs.size + 1], _, _, H1, rfl, I2, turn_zipH (PySem.W.ktu_apart s1.heap.objs.size a b la lb), ⟨hz, hTI, ⟨_, _, hTO⟩, h1, h2⟩, fun c hcm => ?_, q⟩
      have hle : s1.heap.objs.size ≤ c := by
        simp only [List.mem_cons, List.not_mem_nil, or_false] at hcm
        rcases hcm with z | z | z | z | z
        · rw [z]; exact Nat.le_add_right _ _
        · rw [z]; exact Nat.le_add_right _ _
        · rw [z]; exact Nat.le_add_right _ _
        · rw [z]; exact Nat.le_refl _
        · rw [z]; exact Nat.le_add_right _ _
      exact I1.fpOk hle (I1.hok.fresh hle)
/-- a loop over that zip, the lists of one length -/
theorem for_zipH {K : PySem.W.Frag} {a b : Addr} {xs ys : List V} {g : TG} {tb : TS} {D : Ends} {σ : L2.St} {H : Hp} (hl : xs.length = ys.length) (Pv : Nat → L2.St → Hp → Prop) (h0 : Pv 0 σ H) (hq : ∀ i σ H, Pv i σ H → SqL K H a xs ∧ SqL K H b ys)
    (hs : ∀ (i : Nat) (x y : V) (T : Addr) (σ : L2.St) (H : Hp), xs[i]? = some x → ys[i]? = some y → Pv i σ H → H T = none → g (.ref T) σ (upd H T (.tup [x, y])) fun σ2 H2 => tb { D with nx := Pv (i + 1), ct := Pv (i + 1), bk := D.nx } σ2 H2) (hd : ∀ σ H, Pv xs.length σ H → D.nx σ H) :
    ∃ W : Nat → Nat → L2.St → Hp → Prop, (∃ m, W 0 m σ H) ∧ ∀ i m σ H, W i m σ H →
      ((ItzH K a b).stop i H ∧ D.nx σ H) ∨ ((ItzH K a b).go i H ∧ ∃ N : L2.St → Hp → Prop, (∀ σ' H', N σ' H' → ∃ m', m' < m ∧ W (i + 1) m' σ' H') ∧ ∀ v H', (ItzH K a b).yld i H v H' → g v σ H' fun σ2 H2 => tb { D with nx := N, ct := N, bk := D.nx } σ2 H2) := by
  refine ⟨fun i m σ H => i + m = xs.length ∧ Pv i σ H, ⟨xs.length, Nat.zero_add _, h0⟩, fun i m σ H ⟨e, hP⟩ => ?_⟩
  obtain ⟨qa, qb⟩ := hq i σ H hP
  by_cases hi : i < xs.length
  · have hx : xs[i]? = some xs[i] := List.getElem?_eq_getElem hi
    have hy : ys[i]? = some (ys[i]'(hl ▸ hi)) := List.getElem?_eq_getElem (hl ▸ hi)
    refine .inr ⟨⟨xs, ys, _, _, qa, qb, hx, hy⟩, Pv (i + 1), fun σ' H' h => ⟨m - 1, by omega, by omega, h⟩, fun v H' hv => ?_⟩
    obtain ⟨T, x, y, rfl, nT, rfl, f1, f2⟩ := hv
    exact hs i x y T σ H (f1 _ qa) (f2 _ qb) hP nT
  · refine .inl ⟨⟨xs, qa, by omega⟩, ?_⟩
    have e2 : i = xs.length := by omega
    rw [e2] at hP
    exact hd σ H hP
end Rs
/-! an own error over an own base: made, raised where nothing is handled, caught by name -/
namespace Rs
open PySem PySem.Spec PyProof.Rows L2
/-- what is read off the base: its __init__ is ValueError's -/
structure FitB (K : PySem.W.Frag) (C : Addr) : Prop where
  rd : PySem.W.readsIn K C (.type "type") = true
  ga : PySem.W.specialIn K (.ref C) "__getattribute__" = some (some (.builtin "type.__getattribute__"))
  at_ : PySem.W.findCls K (.ref C) (.type "type") "__init__" = some (.val (.builtin "ValueError.__init__"))
section
variable {X : Cx} {e : Expr} {es : List Expr} {ta : TA} {p1 p2 pos : Pos} {CF : Addr} {x : Str}
/-- Base.__init__(self, ..) -/
theorem pe_binit {pl : Sem Bool} (hg : Gl X x) (hm : X.mg x = some (.ref CF)) (B : FitB X.K CF) (ha : PA X (e :: es) ta) (hdb : (x == ("__debug__" : Str)) = false := by decide)
    (hc : eval (.Call (.Attribute (.Name x p1) "__init__" p2) (e :: es) [] pos) X.env = (do
      let ov ← eval (.Name x p1) X.env
      standAt p2.atName
      let (f, first) ← holding [ov] (getMethod ov "__init__" pl)
      callWith pos f first (backTo pos (starEach (e :: es) X.env)) (backToKw pos (keywordEach [] X.env))) := by rfl)
    (he : starEach (e :: es) X.env = (false, eval e X.env) :: starEach es X.env := by rfl) (hpl : (backTo pos (starEach es X.env)).any (·.1) = false := by rfl) :
    PE X (.Call (.Attribute (.Name x p1) "__init__" p2) (e :: es) [] pos) (tVeI X.K ta) := by
  refine ⟨fun pins s σ H Q I h => ?_⟩
  refine PySem.W.methodCall_KW (ld_glob I hg hm ?_ hdb) hc
  refine PySem.W.method_cls I.kIn B.ga (PySem.W.cls_value I.kIn B.rd B.at_ (by decide +kernel) ?_)
  have I0 : Inv X pins σ H { s with toks := s.toks + 1 } := I.tok _
  show wpAny _ _ (callWith pos (Value.builtin "ValueError.__init__") [] (backTo pos (starEach (e :: es) X.env)) []) _ _ _
  refine PyProof.Rows.callWith_method1 (thn (ha.run pos pins _ σ H _ I0 h) fun us s1 ⟨vs, H1, I1, r1, a, C, ws, ev, hl, T, ea, q⟩ => ?_) he hpl
  subst ev
  cases r1 with
  | @cons _ u0 _ ur ra rw' =>
    obtain rfl : u0 = Value.ref a := ra
    have hlen : ur.length ≤ sizeLine := by
      rw [← Paired.length rw', sizeLine_eq]
      omega
    exact oinit_ok T I1 ea hlen fun s' J => ⟨.non, H1, J, rfl, q⟩
/-- C(e, ..), a new error whose context is None -/
theorem pmk_oexN {CX : CXT} {C fI : Addr} {k : Nat} {fd : FuncData} {ps : List Str} {sp : Sp} {ds : List Value} {dvs : List V} (T : OexC X.K C) (iC : PySem.W.findIn X.K (.ref C) "__init__" = some (some (.ref fI))) (tI : PySem.W.typeIn X.K (.ref fI) = some (.type "function"))
    (F1 : FnOk X.prog X.w X.K X.mg X.base CX k fI fd ps sp) (hr : Room (k + 1) X.A) (hb : Binds X.K fd ps ds) (hd : Vals dvs ds) (hx : Passes CX X (fun _ _ _ => False)) (hg : Gl X x) (hm : X.mg x = some (.ref C)) (ha : PA X (e :: es) ta)
    (hdb : (x == ("__debug__" : Str)) = false := by decide) (he : starEach (e :: es) X.env = (false, eval e X.env) :: starEach es X.env := by rfl) (hpl : (backTo pos (starEach es X.env)).any (·.1) = false := by rfl) :
    L2N.PMk X (.Call (.Name x p1) (e :: es) [] pos) (tMkO C sp dvs ta) := by
  intro pins s σ H Q I h
  obtain ⟨nm, q, N, bs, bm, sn, sub, ab, col, dd, k0, k1, k2, k3, k5, hC, hbm⟩ := T.cls
  refine wpAny_Call_Name_kw (ld_glob I hg hm ?_ hdb)
  refine PySem.W.callWith_K (h₀ := X.base) I.ok.mod.kin T.kC (thn (ha.run pos pins s σ H _ I h) fun us s1 ⟨vs, H1, I1, r1, hz, q1⟩ => ⟨I1.kIn, ?_⟩) he hpl
  show wpAny _ _ (call (.ref C) us) _ _ _
  obtain ⟨hp, g, dr, tk, os⟩ := s1
  have hsz : hp.objs.size ≤ hp.objs.size + 1 := Nat.le_succ _
  have hn : H1 (hp.objs.size + 1) = none := I1.hok.fresh hsz
  have hq := q1 (hp.objs.size + 1) hn
  have kk : ∀ b o, hp.get? b = some o → ((hp.push (PySem.W.kdv_tup us)).push (PySem.HandSPX.excO C hp.objs.size)).get? b = some o := fun b o z => Heap.get?_push_of_some _ (Heap.get?_push_of_some _ z)
  have hget : ((hp.push (PySem.W.kdv_tup us)).push (PySem.HandSPX.excO C hp.objs.size)).get? (hp.objs.size + 1) = some (PySem.HandSPX.excO C hp.objs.size) := by heap_get
  have I2 : Inv X pins σ (upd H1 (hp.objs.size + 1) (exo (hp.objs.size + 1) C none)) ⟨(hp.push (PySem.W.kdv_tup us)).push (PySem.HandSPX.excO C hp.objs.size), g, dr, tk, os⟩ :=
    I1.laid (t' := tk) (a := hp.objs.size + 1) (o := exo (hp.objs.size + 1) C none) (h' := (hp.push (PySem.W.kdv_tup us)).push (PySem.HandSPX.excO C hp.objs.size)) kk hsz (exo_ok hget)
  have r2 : Vals (V.ref (hp.objs.size + 1) :: (vs ++ dvs)) (Value.ref (hp.objs.size + 1) :: (us ++ ds)) := .cons rfl (r1.append hd)
  have hl : (Value.ref (hp.objs.size + 1) :: us ++ ds).length = ps.length := by
    have z := r2.length
    rw [F1.len _ _ _ _ hq] at z
    exact z.symm
  have hus : us.length ≤ sizeLine := by
    rw [← Paired.length r1, sizeLine_eq]
    omega
  refine wpAny_call (PySem.HandSPX.call_own F.excBase_ValueError (fun Y => PySem.HandSPX.refsVE_contains Y bm hbm) (I1.kIn _ _ hC) (PySem.W.looks_findIn I1.kIn iC) (fun self => PySem.W.bind_fn I1.kIn self tI) hus
    (codeAny_mono (F1.run _ X.stack _ _ ⟨Value.ref (hp.objs.size + 1) :: us, []⟩ (Value.ref (hp.objs.size + 1) :: (us ++ ds)) _ _ (fun _ _ _ => False) (hr.make C us []) (I2.env0.make C us []) (hb _ (Value.ref (hp.objs.size + 1) :: us) I2.kIn hl) r2 hq) fun r s' hq' => ?_))
  cases r with
  | error er => exact hx pins σ _ _ er s' I2 hq'
  | ok fl =>
    cases fl with
    | ret u =>
      obtain ⟨v, H2, os2, bare2, un2, hok2, rv, ev, d, fs, ea, ed, hd1, q2⟩ := hq'
      subst ev
      obtain ⟨h2, g2, d2, t2, os'⟩ := s'
      obtain ⟨t0, G, J, kG, ge, hoe, na⟩ := mk_end0 (d2 := d2) (t2 := t2) I1 hsz kk un2 hok2 os2 bare2 ea ed hd1
      refine ⟨rv, hp.objs.size + 1, _, _, ⟨G, g2, d2, t2, os'⟩, _, .ref C, some d, rfl, J, kG, ge, hoe, ⟨rfl, rfl, fun vs z => ?_⟩, rfl, rfl, na, rfl, bare2, raises_own T.exC T.tyC, q2⟩
      injection z with z
      rw [← z]
      rfl
    | next => exact False.elim hq'
    | brk => exact False.elim hq'
    | cont => exact False.elim hq'
end
section
variable {P : Program} {w : World} {K : PySem.W.Frag} {mg : Str → Option Value} {base : Heap}
/-- a def that may let out an error whose context is None -/
theorem okN {x qual : Str} {st : Stmt} {f : Addr} {fd : FuncData} {N ps : List Str} {k : Nat} {sp : Sp} (F : Fun K x qual st f fd) (S : FnScope N ps (defScope st)) (len : ∀ vs H Q E, sp vs H Q E → vs.length = ps.length)
    (hbody : ∀ (cdv : Value) (A : Around) (outer : List Env) (s : Shared) (H : Hp) (vs : List V) (Q : VK) (E : XK), Room k (A.deeper (envOfC qual (defScope st) s.heap.objs.size f cdv)) → sp vs H Q E →
      ∃ t, PSs (cxOf (L2N.CX P w) P w K mg base N qual (defScope st) f cdv A outer s H E) (defBody st) t ∧ t { nx := fun _ H' => Q .non H', rt := Q } (start N vs) H) : FnOk P w K mg base (L2N.CX P w) (k + 1) f fd ps sp := by
  obtain ⟨oc, od, kV, doc, pm, an, cdv, ct, osl, rfl, lk, hcd⟩ := F.ex
  exact fn_of lk hcd S len fun A outer s H vs Q E hr hsp => hbody cdv A outer s H vs Q E hr hsp
/-- a def called where an error is handled -/
theorem okH {x qual : Str} {st : Stmt} {f : Addr} {fd : FuncData} {N ps : List Str} {k : Nat} {sp : Sp} (F : Fun K x qual st f fd) (S : FnScope N ps (defScope st)) (len : ∀ vs H Q E, sp vs H Q E → vs.length = ps.length)
    (hbody : ∀ (cdv : Value) (A : Around) (outer : List Env) (s : Shared) (H : Hp) (vs : List V) (Q : VK) (E : XK) (p : Addr × Obj), L2H.Hot1 A p → L2H.RoomH k (A.deeper (envOfC qual (defScope st) s.heap.objs.size f cdv)) → sp vs H Q E →
      ∃ t, PSs (L2H.cxH CX0 P w K mg base N qual (defScope st) f cdv A outer s H E p).nox (defBody st) t ∧ t { nx := fun _ H' => Q .non H', rt := Q } (start N vs) H) : L2H.FnH P w K mg base CX0 (k + 1) f fd ps sp := by
  obtain ⟨oc, od, kV, doc, pm, an, cdv, ct, osl, rfl, lk, hcd⟩ := F.ex
  refine L2H.fn_ofH lk hcd S len fun A outer s H vs Q E p hp hr hsp => ?_
  obtain ⟨t, h1, h2⟩ := hbody cdv A outer s H vs Q E p hp hr hsp
  exact ⟨t, h1.nox, h2⟩
end
section
variable {X : Cx}
theorem ps_nox {st : Stmt} {t : TS} (h : PS X.nox st t) : PS X st t := ⟨fun pins s σ H D I hw =>
  wpAny_mono (h.run pins s σ H D (I.wish _) hw) (fun _ _ q => q.unwish) fun _ _ z => False.elim z⟩
theorem takesN0 : L2N.Takes X (fun _ _ _ _ => False) := fun _ _ x => by
  obtain ⟨_, _, _, _, _, _, _, _, _, _, _, _, _, _, _, _, z⟩ := x
  exact z.elim
variable {CX : CXT} {k : Nat} {f C : Addr} {fd : FuncData} {ps : List Str} {sp : Sp} {E : L2.St → XK} {x : Str} {p pos : Pos} {e : Expr} {es : List Expr} {t : TA}
/-- C(e, ..): what its __init__ raises is wished for at the slots -/
def tMakeS (C : Addr) (sp : Sp) (E : L2.St → XK) (t : TA) : TE := fun σ H Q => t σ H fun vs H1 => ∀ x dx, H1 x = none → H1 dx = none → dx ≠ x →
  sp (.ref x :: vs) (upd (upd H1 dx (.own x)) x (.ins C dx [])) (fun v H2 => v = .non ∧ Q (.ref x) H2) (E σ)
theorem run_makeS {pins : List (Addr × Obj)} {σ : L2.St} {H : Hp} {s : Shared} {Q : VK} {us : List Value} {vs : List V} (M : Mk X.K C f) (F : FnOk X.prog X.w X.K X.mg X.base CX k f fd ps sp) (hr : Room (k + 1) X.A) (hb : Binds X.K fd ps [])
    (hx : PassesAt CX X σ (E σ)) (I : Inv X pins σ H s) (r : Vals vs us)
    (h : ∀ x dx, H x = none → H dx = none → dx ≠ x → sp (.ref x :: vs) (upd (upd H dx (.own x)) x (.ins C dx [])) (fun v H2 => v = .non ∧ Q (.ref x) H2) (E σ)) :
    wpAny (model X.prog X.w) X.A (call (.ref C) us) (EP X pins σ Q) X.xe s := by
  have hq := h (s.heap.objs.size + 1) s.heap.objs.size (I.hok.fresh (Nat.le_succ _)) (I.hok.fresh (Nat.le_refl _)) (Nat.ne_of_lt (Nat.lt_succ_self _))
  have I2 := Inv.made (C := C) I
  have r2 : Vals (V.ref (s.heap.objs.size + 1) :: vs) (Value.ref (s.heap.objs.size + 1) :: us) := .cons rfl r
  have hl : (Value.ref (s.heap.objs.size + 1) :: us).length = ps.length := by
    have z := r2.length
    rw [F.len _ _ _ _ hq] at z
    exact z.symm
  have b := hb _ (Value.ref (s.heap.objs.size + 1) :: us) I2.kIn (by rw [List.append_nil]; exact hl)
  rw [List.append_nil] at b
  refine wpAny_call (make_map (f := f) I.kIn M.makes M.init (beq_iff_eq.mp M.fn) (codeAny_mono (F.run _ X.stack _ _ ⟨Value.ref (s.heap.objs.size + 1) :: us, []⟩ (Value.ref (s.heap.objs.size + 1) :: us) _ _ (E σ) (hr.make C us [])
    (I2.env0.make C us []) b r2 hq) fun r s' hq' => ?_))
  cases r with
  | error er => exact hx pins _ _ er s' I2 hq'
  | ok fl =>
    cases fl with
    | ret u =>
      obtain ⟨v, H', I3, rv, ev, q3⟩ := I2.after hq'
      subst ev
      exact ⟨rv, ⟨V.ref (s.heap.objs.size + 1), H', I3, rfl, q3⟩⟩
    | next => exact False.elim hq'
    | brk => exact False.elim hq'
    | cont => exact False.elim hq'
theorem pe_makeS (M : Mk X.K C f) (F : FnOk X.prog X.w X.K X.mg X.base CX k f fd ps sp) (hr : Room (k + 1) X.A) (hg : Gl X x) (hm : X.mg x = some (.ref C)) (hb : Binds X.K fd ps []) (hx : ∀ σ, PassesAt CX X σ (E σ))
    (ha : PA X (e :: es) t) (hdb : (x == ("__debug__" : Str)) = false := by decide) (he : starEach (e :: es) X.env = (false, eval e X.env) :: starEach es X.env := by rfl) (hpl : (backTo pos (starEach es X.env)).any (·.1) = false := by rfl) :
    PE X (.Call (.Name x p) (e :: es) [] pos) (tMakeS C sp E t) := by
  refine ⟨fun pins s σ H Q I h => ?_⟩
  refine wpAny_Call_Name_kw (ld_glob I hg hm ?_ hdb)
  refine PySem.W.callWith_K (h₀ := X.base) I.ok.mod.kin M.kp (thn (ha.run pos pins s σ H _ I h) fun us s1 ⟨vs, H1, I1, r1, q1⟩ => ⟨I1.kIn, ?_⟩) he hpl
  exact run_makeS M F hr hb (hx σ) I1 r1 q1
end
end Rs
/-! the text by places -/
namespace Rs
open PySem PySem.Spec PyProof.Rows L2
def top (i : Nat) : Stmt := PySem.Challenge.pw_fitmost_k14_whole_rings.main.body.getD i (.Pass ⟨0, 0, 0, 0⟩)
abbrev sRing : Stmt := inClass (top 6) 0
abbrev sIsName : Stmt := top 11
abbrev sLook : Stmt := top 13
abbrev sInRings : Stmt := top 14
abbrev sFor : Stmt := top 15
abbrev sWeb : Stmt := inClass (top 16) 0
abbrev sNames : Stmt := inClass (top 16) 1
abbrev sOver : Stmt := inClass (top 16) 2
abbrev sPick : Stmt := top 18
abbrev sWord : Stmt := top 19
abbrev sNumber : Stmt := top 20
abbrev sLNames : Stmt := top 21
abbrev sOvers : Stmt := top 22
abbrev sLeft : Stmt := top 23
abbrev sIsRing : Stmt := top 24
abbrev sPlaced : Stmt := top 25
abbrev sLaw : Stmt := top 26
theorem scRing : FnScope ["self", "ring"] ["self", "ring"] (defScope sRing) := ⟨rfl, rfl, rfl, by decide +kernel, rfl, by decide +kernel, by decide +kernel⟩
theorem scIsName : FnScope ["thing", "sign"] ["thing"] (defScope sIsName) := ⟨rfl, rfl, rfl, by decide +kernel, rfl, by decide +kernel, by decide +kernel⟩
theorem scLook : FnScope ["tuples", "name", "over", "names", "one"] ["tuples"] (defScope sLook) := ⟨rfl, rfl, rfl, by decide +kernel, rfl, by decide +kernel, by decide +kernel⟩
theorem scInRings : FnScope ["uppers", "left", "again", "free", "name", "one"] ["uppers"] (defScope sInRings) := ⟨rfl, rfl, rfl, by decide +kernel, rfl, by decide +kernel, by decide +kernel⟩
theorem scFor : FnScope ["uppers", "left", "way", "onward", "one"] ["uppers"] (defScope sFor) := ⟨rfl, rfl, rfl, by decide +kernel, rfl, by decide +kernel, by decide +kernel⟩
theorem scWeb : FnScope ["self", "tuples", "name", "over"] ["self", "tuples"] (defScope sWeb) := ⟨rfl, rfl, rfl, by decide +kernel, rfl, by decide +kernel, by decide +kernel⟩
theorem scNames : FnScope ["self"] ["self"] (defScope sNames) := ⟨rfl, rfl, rfl, by decide +kernel, rfl, by decide +kernel, by decide +kernel⟩
theorem scOver : FnScope ["self", "name"] ["self", "name"] (defScope sOver) := ⟨rfl, rfl, rfl, by decide +kernel, rfl, by decide +kernel, by decide +kernel⟩
theorem scPick : FnScope ["_law_script", "_law_k"] ["_law_script", "_law_k"] (defScope sPick) := ⟨rfl, rfl, rfl, by decide +kernel, rfl, by decide +kernel, by decide +kernel⟩
theorem scWord : FnScope ["_law_number_here", "_law_letters", "_law_rest", "_law_found", "_law_k"] ["_law_number_here"] (defScope sWord) := ⟨rfl, rfl, rfl, by decide +kernel, rfl, by decide +kernel, by decide +kernel⟩
theorem scNumber : FnScope ["_law_script", "_law_k", "_law_number_here"] ["_law_script", "_law_k"] (defScope sNumber) := ⟨rfl, rfl, rfl, by decide +kernel, rfl, by decide +kernel, by decide +kernel⟩
theorem scLNames : FnScope ["_law_script", "_law_many", "_law_found", "_law_k", "_law_number_here"] ["_law_script", "_law_many"] (defScope sLNames) := ⟨rfl, rfl, rfl, by decide +kernel, rfl, by decide +kernel, by decide +kernel⟩
theorem scOvers : FnScope ["_law_script", "_law_names_here", "_law_k", "_law_number_here", "_law_found", "_law_name"] ["_law_script", "_law_names_here", "_law_k"] (defScope sOvers) := ⟨rfl, rfl, rfl, by decide +kernel, rfl, by decide +kernel, by decide +kernel⟩
theorem scLeft : FnScope ["_law_overs_here", "_law_left_here", "_law_k", "_law_name", "_law_one"] ["_law_overs_here"] (defScope sLeft) := ⟨rfl, rfl, rfl, by decide +kernel, rfl, by decide +kernel, by decide +kernel⟩
theorem scIsRing : FnScope ["_law_ring", "_law_overs_here", "_law_name", "_law_upper"] ["_law_ring", "_law_overs_here"] (defScope sIsRing) := ⟨rfl, rfl, rfl, by decide +kernel, rfl, by decide +kernel, by decide +kernel⟩
theorem scPlaced : FnScope ["_law_web", "_law_overs_here", "_law_places", "_law_k", "_law_name", "_law_one"] ["_law_web", "_law_overs_here"] (defScope sPlaced) := ⟨rfl, rfl, rfl, by decide +kernel, rfl, by decide +kernel, by decide +kernel⟩
theorem scLaw : FnScope ["_law_script", "_law_names_here", "_law_overs_here", "_law_k", "_law_name", "_law_left_here", "_law_web", "e"] ["_law_script"] (defScope sLaw) := ⟨rfl, rfl, rfl, by decide +kernel, rfl, by decide +kernel, by decide +kernel⟩
end Rs
/-! small words for the walks -/
namespace Rs
open PySem PySem.Spec PyProof.Rows L2
/-- what a caller must have of a def: its place, its binding -/
structure Cal (K : PySem.W.Frag) (mg : Str → Option Value) (x : Str) (f : Addr) (fd : FuncData) (ps : List Str) : Prop where
  mgf : mg x = some (.ref f)
  kp : PySem.W.keepIn K (.ref f) = true
  b : L2.Binds K fd ps []
theorem same_upd {H : Hp} {p : Addr} {o : HO} (h : H p = none) : Same H (upd H p o) := fun b x e => by
  rw [upd_ne (ne_of_none e h)]
  exact e
theorem sPut {H H1 : Hp} {p : Addr} {o : HO} (s : Same H H1) (h : H1 p = none) : Same H (upd H1 p o) := s.trans (same_upd h)
/-- a thing that was not there at H is rewritten -/
theorem sRe {H H1 : Hp} {p : Addr} {o : HO} (s : Same H H1) (h : H p = none) : Same H (upd H1 p o) := fun b x e => by
  rw [upd_ne (ne_of_none e h)]
  exact s b x e
/-- all but p -/
def But (p : Addr) (H H' : Hp) : Prop := ∀ b o, b ≠ p → H b = some o → H' b = some o
theorem But.refl {p : Addr} {H : Hp} : But p H H := fun _ _ _ e => e
theorem But.trans {p : Addr} {H H1 H2 : Hp} (a : But p H H1) (b : But p H1 H2) : But p H H2 := fun c o n e => b c o n (a c o n e)
theorem But.of {p : Addr} {H H1 : Hp} (s : Same H H1) : But p H H1 := fun b o _ e => s b o e
theorem But.re {p : Addr} {H : Hp} {o : HO} : But p H (upd H p o) := fun b x n e => by
  rw [upd_ne n]
  exact e
theorem But.same {p : Addr} {H H1 : Hp} (s : But p H H1) (h : H p = none) : Same H H1 := fun b o e => s b o (ne_of_none e h) e
/-! ### texts in lists -/
theorem flatS (ys : List Str) : (ys.map V.str).all flatV = true := by
  induction ys with
  | nil => rfl
  | cons y r ih => rw [List.map_cons, List.all_cons, ih]; rfl
theorem inS (x : Str) (ys : List Str) : inV (V.str x) (ys.map V.str) = decide (x ∈ ys) := by
  induction ys with
  | nil => rfl
  | cons y r ih =>
    show (eqV (V.str y) (V.str x) || inV (V.str x) (r.map V.str)) = _
    rw [ih]
    show ((y == x) || decide (x ∈ r)) = _
    by_cases e : y = x
    · subst e
      simp
    · have e1 : (y == x) = false := by simpa using e
      have e2 : ¬ x = y := fun z => e z.symm
      rw [e1]
      simp [List.mem_cons, e2]
theorem small {n : Nat} (h : n ≤ 1000) : n ≤ sizeLine := Nat.le_of_lt (small1000 h)
theorem mapS_at {ys : List Str} {i : Nat} {x : V} (h : (ys.map V.str)[i]? = some x) : ∃ y, ys[i]? = some y ∧ x = V.str y := by
  rw [List.getElem?_map] at h
  cases e : ys[i]? with
  | none => rw [e] at h; cases h
  | some y => rw [e] at h; exact ⟨y, rfl, (Option.some.inj h).symm⟩
theorem mapS_get {ys : List Str} {i : Nat} {y : Str} (h : ys[i]? = some y) : (ys.map V.str)[i]? = some (V.str y) := by
  rw [List.getElem?_map, h]; rfl
/-! ### texts by their codes -/
def ofC (l : List Nat) : Str := ⟨l.toArray⟩
theorem ofC_add (l : List Nat) (c : Nat) : ofC l ++ (⟨#[c]⟩ : Str) = ofC (l ++ [c]) := by
  show (⟨l.toArray ++ #[c]⟩ : Str) = ⟨(l ++ [c]).toArray⟩
  simp
theorem ofC_len (l : List Nat) : (ofC l).length = l.length := by
  show l.toArray.size = l.length
  simp
theorem ofC_inj {a b : List Nat} (h : ofC a = ofC b) : a = b := by
  have := congrArg (fun s : Str => s.cps.toList) h
  exact this
theorem ofC_list (x : Str) : ofC x.cps.toList = x := by
  show (⟨x.cps.toList.toArray⟩ : Str) = x
  simp
/-- the law's word for a number -/
def wordS (n : Int) : Str := ofC (Wd.word n)
def specS : List Str := Wd.spec.map ofC
theorem specS_eq : specS = (["any", "none", "blank", "new", "on"] : List Str) := by decide +kernel
theorem mem_specS (l : List Nat) : ofC l ∈ specS ↔ l ∈ Wd.spec := by
  unfold specS
  rw [List.mem_map]
  exact ⟨fun ⟨m, h, e⟩ => ofC_inj e ▸ h, fun h => ⟨l, h, rfl⟩⟩
/-- a name -/
def NmS (x : Str) : Prop := Wd.Nm x.cps.toList
theorem word_name (n : Int) : NmS (wordS n) := by
  show Wd.Nm (ofC (Wd.word n)).cps.toList
  have e : (ofC (Wd.word n)).cps.toList = Wd.word n := rfl
  rw [e]
  exact Wd.word_nm n
theorem word_newS (n : Int) (found : List Str) (h : found.length ≤ 23) : ∃ t : Nat, wordS (n + t) ∉ found := by
  obtain ⟨t, ht⟩ := Wd.word_new n (found.map fun s => s.cps.toList) (by rw [List.length_map]; exact h)
  refine ⟨t, fun hc => ht (List.mem_map.mpr ⟨_, hc, rfl⟩)⟩
theorem letters_at : ∀ j : Nat, j < 26 → ((("abcdefghijklmnopqrstuvwxyz" : Str).cps.toList)[j]? = some (97 + j)) := by
  have h : ((List.range 26).all fun j => decide ((("abcdefghijklmnopqrstuvwxyz" : Str).cps.toList)[j]? = some (97 + j))) = true := by decide +kernel
  intro j hj
  exact of_decide_eq_true (List.all_eq_true.mp h j (List.mem_range.mpr hj))
theorem letters_len : ("abcdefghijklmnopqrstuvwxyz" : Str).length = 26 := by decide +kernel
/-! ### lists cut, two ints of a list -/
theorem cut_int {ns : List Int} {lo hi : Option Int} : ∃ ms : List Int, cutV (ns.map V.int) lo hi = ms.map V.int ∧ ms.length ≤ ns.length := by
  refine ⟨(ns.drop (HT.sIx ns.length 0 lo)).take (HT.sIx ns.length ns.length hi - HT.sIx ns.length 0 lo), ?_, ?_⟩
  · unfold cutV
    rw [List.length_map, List.map_take, List.map_drop]
  · rw [List.length_take, List.length_drop]
    omega
theorem head_int (ms : List Int) : ∃ z : Int, atI (ms.map V.int ++ [V.int 0]) 0 = some (V.int z) := by
  cases ms with
  | nil => exact ⟨0, atI_nat (j := 0) rfl⟩
  | cons m r => exact ⟨m, atI_nat (j := 0) rfl⟩
/-! ### the promises of the law's own small defs -/
def spPick (K : PySem.W.Frag) : Sp := fun vs H Q _ => ∃ (a : Addr) (ns : List Int) (k : Int), vs = [.ref a, .int k] ∧ SqL K H a (ns.map V.int) ∧ ns.length ≤ 63 ∧ ∀ (z : Int) H', Same H H' → Q (.int z) H'
def spWord : Sp := fun vs H Q _ => ∃ n : Int, vs = [.int n] ∧ ∀ H', Same H H' → Q (.str (wordS n)) H'
/-- a number of a script, by a mixed draw -/
def spNumber (K : PySem.W.Frag) : Sp := fun vs H Q _ => ∃ (a : Addr) (ns : List Int) (k : Int), vs = [.ref a, .int k] ∧ SqL K H a (ns.map V.int) ∧ ns.length ≤ 63 ∧ 0 ≤ k ∧ k ≤ 100 ∧ ∀ (z : Int) H', Same H H' → Q (.int z) H'
def spNames (K : PySem.W.Frag) : Sp := fun vs H Q _ => ∃ (a : Addr) (ns : List Int) (m : Nat), vs = [.ref a, .int m] ∧ SqL K H a (ns.map V.int) ∧ ns.length ≤ 63 ∧ m ≤ 24 ∧
  ∀ (ws : List Str) (p : Addr) H', ws.length = m → ws.Nodup → (∀ x ∈ ws, NmS x) → Same H H' → H p = none → H' p = some (.lst (ws.map V.str)) → Q (.ref p) H'
def spOvers (K : PySem.W.Frag) : Sp := fun vs H Q _ => ∃ (a l : Addr) (ns : List Int) (ws : List Str) (k : Int), vs = [.ref a, .ref l, .int k] ∧ SqL K H a (ns.map V.int) ∧ ns.length ≤ 63 ∧ SqL K H l (ws.map V.str) ∧ ws ≠ [] ∧ ws.length ≤ 24 ∧ 0 ≤ k ∧ k ≤ 30 ∧
  ∀ (us : List Str) (p : Addr) H', us.length ≤ 24 → (∀ x ∈ us, x ∈ ws) → Same H H' → H p = none → H' p = some (.lst (us.map V.str)) → Q (.ref p) H'
end Rs
/-! walks: _law_pick, _law_word, _law_number -/
namespace Rs
open PySem PySem.Spec PyProof.Rows L2
section
variable {P : Program} {w : World} {K : PySem.W.Frag} {mg : Str → Option Value} {base : Heap}
theorem ok_pick {f : Addr} {fd : FuncData} (F : Fun K "_law_pick" "_law_pick" sPick f fd) : FnOk P w K mg base CX0 1 f fd ["_law_script", "_law_k"] (spPick K) := by
  refine F.ok scPick (fun vs H Q E h => ?_) (fun cdv A outer s H vs Q E hr h => ?_)
  · obtain ⟨a, ns, k, rfl, _⟩ := h
    rfl
  · obtain ⟨a, ns, k, rfl, hS, hl, q⟩ := h
    refine ⟨_, pss_one (ps_ret (pe_ix ix_list (pe_op op_cat (pe_slice sl_list (pv 0) (po_some (pv 1)) (po_some (pe_op op_add (pv 1) pe_int))) (pe_lst (pa_cons pe_int pa_nil))) pe_int (fun _ _ => rfl))), ?_⟩
    obtain ⟨ms, em, hm⟩ := cut_int (ns := ns) (lo := some k) (hi := some (k + 1))
    obtain ⟨z, hz⟩ := head_int ms
    refine ⟨_, rfl, _, rfl, k, rfl, _, rfl, k, 1, rfl, rfl, k + 1, rfl, a, _, rfl, hS, fun p np => ?_⟩
    rw [em]
    refine ⟨by decide, fun r nr => ?_⟩
    have npr : p ≠ r := fun e => by
      rw [← e, upd_same] at nr
      cases nr
    refine ⟨p, r, ms.map V.int, [V.int 0], rfl, rfl, by rw [upd_ne npr, upd_same], upd_same, ?_, fun t nt => ?_⟩
    · rw [List.length_map]
      exact small (by simp; omega)
    · exact ⟨t, _, 0, _, rfl, rfl, SqL.of upd_same, hz, q z _ (sPut (sPut (same_upd np) nr) nt)⟩
theorem ok_word {f : Addr} {fd : FuncData} (F : Fun K "_law_word" "_law_word" sWord f fd) (mr : mg "range" = none) : FnOk P w K mg base CX0 1 f fd ["_law_number_here"] spWord := by
  refine F.ok scWord (fun vs H Q E h => ?_) (fun cdv A outer s H vs Q E hr h => ?_)
  · obtain ⟨n, rfl, _⟩ := h
    rfl
  · obtain ⟨n, rfl, q⟩ := h
    refine ⟨_, pss_cons (ps_set (i := 1) scWord.nd rfl (.inl rfl) pe_str)
      (pss_cons (ps_set (i := 2) scWord.nd rfl (.inl rfl) (pe_op op_fdiv (pv 0) pe_int))
      (pss_cons (ps_set (i := 3) scWord.nd rfl (.inl rfl) pe_str)
      (pss_cons (ps_for PassesOwn.never rfl (pi_range1 rfl mr (pa_cons (pe_op op_add pe_int (pe_op op_mod (pv 0) pe_int)) pa_nil)) (pg_name (i := 4) scWord.nd rfl (.inl rfl))
        (pss_cons (ps_set (i := 3) scWord.nd rfl (.inl rfl) (pe_op op_add_str (pv 3) (pe_ix ix_str (pv 1) (pe_op op_mod (pv 2) pe_int) (fun _ _ => rfl))))
        (pss_one (ps_set (i := 2) scWord.nd rfl (.inl rfl) (pe_op op_fdiv (pv 2) pe_int)))))
      (pss_cons (ps_if (pt_cmpR op_in_seq (pv 3) (pe_lst (pa_cons pe_str (pa_cons pe_str (pa_cons pe_str (pa_cons pe_str (pa_cons pe_str pa_nil)))))) rfl) (pss_one (ps_ret (pe_op op_add_str (pv 3) pe_str))) pss_nil)
      (pss_one (ps_ret (pv 3))))))), ?_⟩
    -- rest = n // 8
    refine ⟨_, rfl, n, 8, rfl, rfl, ⟨by decide, by decide⟩, ?_⟩
    -- range(1 + n % 8)
    refine ⟨_, rfl, n, 8, rfl, rfl, (by show (0 : Int) < 8; decide), 1, n % 8, rfl, rfl, 1 + n % 8, rfl, by omega, by omega, ?_⟩
    have em : (1 + n % 8).toNat = Wd.many n := rfl
    rw [em]
    have mp := Wd.many_pos n
    refine for_range (lo := 0) (n := Wd.many n) (fun i σ H' => ∃ y4, H' = H ∧ σ = [some (.int n), some (.str "abcdefghijklmnopqrstuvwxyz"), some (.int (Wd.rst (n / 8) i)), some (.str (ofC (Wd.digs (n / 8) i))), y4]) ⟨none, rfl, rfl⟩ ?_ ?_
    · rintro i σ H' hi ⟨y4, rfl, rfl⟩
      have hd : Wd.rst (n / 8) i % 26 = (((Wd.rst (n / 8) i % 26).toNat : Nat) : Int) := by omega
      have hlt : (Wd.rst (n / 8) i % 26).toNat < 26 := by omega
      refine ⟨_, rfl, _, rfl, _, rfl, Wd.rst (n / 8) i, 26, rfl, rfl, (by show (0 : Int) < 26; decide), ?_⟩
      refine ⟨_, _, 97 + (Wd.rst (n / 8) i % 26).toNat, rfl, rfl, ?_, ?_, ?_⟩
      · rw [letters_len]
        exact small (by decide)
      · rw [hd]
        exact atI_nat (letters_at _ hlt)
      · refine ⟨_, _, rfl, rfl, ?_, ?_⟩
        · rw [ofC_len, Wd.digs_len]
          exact small (by show i + 1 ≤ 1000; omega)
        · rw [ofC_add]
          exact ⟨_, rfl, Wd.rst (n / 8) i, 26, rfl, rfl, ⟨by decide, by decide⟩, some (.int (0 + i)), rfl, rfl⟩
    · rintro σ H' ⟨y4, rfl, rfl⟩
      -- if found in [..]
      refine ⟨_, rfl, by decide, fun p np => ?_⟩
      have hm : decide (ofC (Wd.digs (n / 8) (Wd.many n)) ∈ (["any", "none", "blank", "new", "on"] : List Str)) = decide (Wd.digs (n / 8) (Wd.many n) ∈ Wd.spec) := by
        rw [← specS_eq]
        exact decide_eq_decide.mpr (mem_specS _)
      refine ⟨p, _, rfl, .inl (SqL.of upd_same), rfl, flatS ["any", "none", "blank", "new", "on"], _, rfl, ?_⟩
      rw [if_neg Bool.false_ne_true]
      rw [show inV (V.str (ofC (Wd.digs (n / 8) (Wd.many n)))) [V.str "any", V.str "none", V.str "blank", V.str "new", V.str "on"] = decide (ofC (Wd.digs (n / 8) (Wd.many n)) ∈ (["any", "none", "blank", "new", "on"] : List Str)) from inS _ ["any", "none", "blank", "new", "on"], hm]
      by_cases hs : Wd.digs (n / 8) (Wd.many n) ∈ Wd.spec
      · rw [decide_eq_true hs]
        refine iteT ?_
        refine ⟨_, rfl, _, _, rfl, rfl, ?_, ?_⟩
        · rw [ofC_len, Wd.digs_len]
          exact small (by show Wd.many n + 1 ≤ 1000; omega)
        · have e : ofC (Wd.digs (n / 8) (Wd.many n)) ++ ("s" : Str) = wordS n := by
            rw [show ("s" : Str) = ⟨#[115]⟩ by decide +kernel, ofC_add]
            unfold wordS Wd.word
            rw [if_pos hs]
          rw [e]
          exact q _ (same_upd np)
      · rw [decide_eq_false hs]
        refine iteF ?_
        have e : ofC (Wd.digs (n / 8) (Wd.many n)) = wordS n := by
          unfold wordS Wd.word
          rw [if_neg hs]
        refine ⟨_, rfl, ?_⟩
        rw [e]
        exact q _ (same_upd np)
theorem ok_number {f fP : Addr} {fd fdP : FuncData} (F : Fun K "_law_number" "_law_number" sNumber f fd) (CP : Cal K mg "_law_pick" fP fdP ["_law_script", "_law_k"]) (GP : FnOk P w K mg base CX0 1 fP fdP ["_law_script", "_law_k"] (spPick K)) :
    FnOk P w K mg base CX0 2 f fd ["_law_script", "_law_k"] (spNumber K) := by
  refine F.ok scNumber (fun vs H Q E h => ?_) (fun cdv A outer s H vs Q E hr h => ?_)
  · obtain ⟨a, ns, k, rfl, _⟩ := h
    rfl
  · obtain ⟨a, ns, k, rfl, hS, hl, h0, h1, q⟩ := h
    refine ⟨_, pss_cons (ps_set (i := 2) scNumber.nd rfl (.inl rfl) (pe_op op_mod (pe_op op_add (pe_op op_add (pe_call GP hr rfl CP.mgf CP.kp CP.b .nil pass0 (pa_cons (pv 0) (pa_cons (pe_op op_add pe_int (pe_op op_mod (pv 1) pe_int)) pa_nil))) (pe_op op_mul pe_int (pv 1))) pe_int) pe_int))
      (pss_cons (ps_set (i := 2) scNumber.nd rfl (.inl rfl) (pe_op op_mod (pe_op op_add (pe_op op_mul (pv 2) (pv 2)) (pe_op op_mul pe_int (pv 1))) pe_int))
      (pss_one (ps_ret (pe_op op_mod (pe_op op_add (pe_op op_mul (pe_op op_mul (pv 2) (pv 2)) (pe_op op_add (pv 2) pe_int)) (pv 1)) (pe_op op_pow pe_int pe_int))))), ?_⟩
    refine ⟨_, rfl, _, rfl, k, 6, rfl, rfl, (by show (0 : Int) < 6; decide), 1, k % 6, rfl, rfl, a, ns, 1 + k % 6, rfl, hS, hl, fun z H1 s1 => ?_⟩
    refine ⟨_, rfl, 7919, k, rfl, rfl, .inl ⟨by decide, by decide⟩, z, 7919 * k, rfl, rfl, _, 31, rfl, rfl, _, 2147483629, rfl, rfl, (by show (0 : Int) < 2147483629; decide), ?_⟩
    dsimp only
    have b1 : 0 ≤ (z + 7919 * k + 31) % 2147483629 ∧ (z + 7919 * k + 31) % 2147483629 < 2147483629 := by omega
    generalize (z + 7919 * k + 31) % 2147483629 = u at b1
    refine ⟨_, rfl, _, rfl, u, u, rfl, rfl, .inl ⟨by omega, by omega⟩, _, rfl, 48271, k, rfl, rfl, .inl ⟨by decide, by decide⟩, _, _, rfl, rfl, _, 2147483629, rfl, rfl, (by show (0 : Int) < 2147483629; decide), ?_⟩
    dsimp only
    have b2 : 0 ≤ (u * u + 48271 * k) % 2147483629 ∧ (u * u + 48271 * k) % 2147483629 < 2147483629 := by omega
    generalize (u * u + 48271 * k) % 2147483629 = v at b2
    refine ⟨_, rfl, _, rfl, v, v, rfl, rfl, .inl ⟨by omega, by omega⟩, _, rfl, v, 40013, rfl, rfl, v * v, v + 40013, rfl, rfl, .inr ⟨by omega, by omega⟩, _, rfl, _, k, rfl, rfl, 10, 18, rfl, rfl, ⟨by decide, by decide, by decide⟩, _, _, rfl, rfl, (by show (0 : Int) < 10 ^ (18 : Int).toNat; decide), ?_⟩
    exact q _ _ s1
end
end Rs
/-! walks: _law_names, _law_overs -/
namespace Rs
open PySem PySem.Spec PyProof.Rows L2
section
variable {P : Program} {w : World} {K : PySem.W.Frag} {mg : Str → Option Value} {base : Heap}
theorem ok_names {f fP fN fW : Addr} {fd fdP fdN fdW : FuncData} (F : Fun K "_law_names" "_law_names" sLNames f fd) (CP : Cal K mg "_law_pick" fP fdP ["_law_script", "_law_k"]) (GP : FnOk P w K mg base CX0 1 fP fdP ["_law_script", "_law_k"] (spPick K))
    (CN : Cal K mg "_law_number" fN fdN ["_law_script", "_law_k"]) (GN : FnOk P w K mg base CX0 2 fN fdN ["_law_script", "_law_k"] (spNumber K)) (CW : Cal K mg "_law_word" fW fdW ["_law_number_here"]) (GW : FnOk P w K mg base CX0 1 fW fdW ["_law_number_here"] spWord) (mr : mg "range" = none) :
    FnOk P w K mg base CX0 3 f fd ["_law_script", "_law_many"] (spNames K) := by
  refine F.ok scLNames (fun vs H Q E h => ?_) (fun cdv A outer s H vs Q E hr h => ?_)
  · obtain ⟨a, ns, k, rfl, _⟩ := h
    rfl
  · obtain ⟨a, ns, m, rfl, hS, hl, hm, q⟩ := h
    have hr1 : Room 1 _ := hr.mono (by decide)
    refine ⟨_, pss_cons (ps_set (i := 2) scLNames.nd rfl (.inl rfl) (pe_lst pa_nil))
      (pss_cons (ps_for PassesOwn.never rfl (pi_range1 rfl mr (pa_cons (pv 1) pa_nil)) (pg_name (i := 3) scLNames.nd rfl (.inl rfl))
        (pss_cons (ps_set (i := 4) scLNames.nd rfl (.inl rfl) (pe_call GP hr1 rfl CP.mgf CP.kp CP.b .nil pass0 (pa_cons (pv 0) (pa_cons (pe_op op_add pe_int (pv 3)) pa_nil))))
        (C8.pss_cut (ps_if (pt_cmpR op_eq (pe_op op_mod (pe_op op_fdiv (pe_call GP hr1 rfl CP.mgf CP.kp CP.b .nil pass0 (pa_cons (pv 0) (pa_cons pe_int pa_nil))) pe_int) pe_int) pe_int (nomark _))
            (pss_one (ps_set (i := 4) scLNames.nd rfl (.inl rfl) (pe_call GN hr rfl CN.mgf CN.kp CN.b .nil pass0 (pa_cons (pv 0) (pa_cons (pv 3) pa_nil))))) pss_nil)
        (pss_cons (ps_while PassesOwn.never (pt_cmpR op_in_seq (pe_call GW hr1 rfl CW.mgf CW.kp CW.b .nil pass0 (pa_cons (pv 4) pa_nil)) (pv 2) rfl) (pss_one (ps_set (i := 4) scLNames.nd rfl (.inl rfl) (pe_op op_add (pv 4) pe_int))))
        (pss_one (ps_expr (pe_bm PySem.F.plainAttrs_list PySem.F.slot_list_append PySem.F.type_list_append mt_append (pv 2) (pa_cons (pe_call GW hr1 rfl CW.mgf CW.kp CW.b .nil pass0 (pa_cons (pv 4) pa_nil)) pa_nil))))))))
      (pss_one (ps_ret (pv 2)))), ?_⟩
    -- found = []
    refine ⟨Nat.zero_le _, fun p np => ?_⟩
    -- for k in range(m)
    refine ⟨_, rfl, (m : Int), rfl, by omega, by omega, ?_⟩
    rw [Int.toNat_natCast]
    refine for_range (lo := 0) (n := m) (fun i σ H' => ∃ (ws : List Str) (y3 y4 : Option V), σ = [some (.ref a), some (.int m), some (.ref p), y3, y4] ∧ Same H H' ∧ H' p = some (.lst (ws.map V.str)) ∧ ws.length = i ∧ ws.Nodup ∧ ∀ x ∈ ws, NmS x)
      ⟨[], none, none, rfl, same_upd np, upd_same, rfl, List.nodup_nil, fun x hx => (by cases hx)⟩ ?_ ?_
    · rintro i σ H1 hi ⟨ws, y3, y4, rfl, s1, hp, hwl, hnd, hnm⟩
      -- number = pick(script, 1 + k)
      refine ⟨_, rfl, _, rfl, 1, 0 + (i : Int), rfl, rfl, a, ns, _, rfl, s1.seq hS, hl, fun z H2 s2 => ?_⟩
      -- if pick(script, 0) // 50 % 2 == 1
      refine ⟨fun σ' H' => ∃ z' : Int, σ' = [some (.ref a), some (.int m), some (.ref p), some (.int (0 + (i : Int))), some (.int z')] ∧ Same H1 H', ?_, ?_⟩
      · refine ⟨_, rfl, a, ns, 0, rfl, s2.seq (s1.seq hS), hl, fun z0 H3 s3 => ?_⟩
        refine ⟨z0, 50, rfl, rfl, ⟨by decide, by decide⟩, _, 2, rfl, rfl, (by show (0 : Int) < 2; decide), rfl, _, rfl, ?_⟩
        refine ite2 (fun _ => ?_) (fun _ => ?_)
        · refine ⟨_, rfl, _, rfl, a, ns, 0 + (i : Int), rfl, s3.seq (s2.seq (s1.seq hS)), hl, by omega, by omega, fun z1 H4 s4 => ?_⟩
          exact ⟨z1, rfl, s2.trans (s3.trans s4)⟩
        · exact ⟨z, rfl, s2.trans s3⟩
      · rintro σ' H2' ⟨z', rfl, s2'⟩
        obtain ⟨t0, ht0⟩ := word_newS z' ws (by omega)
        -- while word(number) in found
        refine ⟨fun μ σ H3 => ∃ t : Nat, t + μ = t0 ∧ σ = [some (.ref a), some (.int m), some (.ref p), some (.int (0 + (i : Int))), some (.int (z' + t))] ∧ Same H1 H3, ⟨t0, 0, by omega, by simp, s2'⟩, ?_⟩
        rintro μ σ H3 ⟨t, et, rfl, s3⟩
        refine ⟨_, rfl, z' + t, rfl, fun H4 s4 => ?_⟩
        have hp4 : H4 p = some (.lst (ws.map V.str)) := s4 _ _ (s3 _ _ hp)
        refine ⟨_, rfl, p, _, rfl, .inl (SqL.of hp4), rfl, flatS ws, _, rfl, ?_⟩
        rw [if_neg Bool.false_ne_true, inS]
        by_cases hin : wordS (z' + t) ∈ ws
        · rw [decide_eq_true hin]
          refine iteT ?_
          have hlt : t ≠ t0 := fun e => ht0 (e ▸ hin)
          refine ⟨fun σ' H' => ∃ t' : Nat, t' = t + 1 ∧ σ' = [some (.ref a), some (.int m), some (.ref p), some (.int (0 + (i : Int))), some (.int (z' + t'))] ∧ Same H1 H', ?_, ?_⟩
          · rintro σ' H' ⟨t', et', rfl, s5⟩
            exact ⟨t0 - (t + 1), by omega, t + 1, by omega, by rw [et'], s5⟩
          · refine ⟨_, rfl, z' + t, 1, rfl, rfl, t + 1, rfl, ?_, s3.trans s4⟩
            show [some (V.ref a), some (V.int m), some (V.ref p), some (V.int (0 + (i : Int))), some (V.int (z' + t + 1))] = _
            rw [Int.add_assoc]
            rfl
        · rw [decide_eq_false hin]
          refine iteF ?_
          -- found.append(word(number))
          refine ⟨_, rfl, .inl ⟨rfl, _, SqL.of hp4⟩, _, rfl, z' + t, rfl, fun H5 s5 => ?_⟩
          have hp5 : H5 p = some (.lst (ws.map V.str)) := s5 _ _ hp4
          refine ⟨p, _, _, rfl, rfl, hp5, ?_, ?_⟩
          · rw [List.length_map]
            exact small1000 (by omega)
          · refine ⟨ws ++ [wordS (z' + t)], _, _, rfl, sRe (s1.trans (s3.trans (s4.trans s5))) np, ?_, ?_, ?_, ?_⟩
            · rw [upd_same, List.map_append]
              rfl
            · rw [List.length_append, hwl]; rfl
            · rw [List.nodup_append]
              refine ⟨hnd, by simp, fun x hx y hy e => ?_⟩
              rw [List.mem_singleton.mp hy] at e
              exact hin (e ▸ hx)
            · intro x hx
              rcases List.mem_append.mp hx with hx | hx
              · exact hnm x hx
              · rw [List.mem_singleton.mp hx]
                exact word_name _
    · rintro σ H1 ⟨ws, y3, y4, rfl, s1, hp, hwl, hnd, hnm⟩
      exact ⟨_, rfl, q ws p H1 hwl hnd hnm s1 np hp⟩
end
end Rs
/-! walk: _law_overs -/
namespace Rs
open PySem PySem.Spec PyProof.Rows L2
theorem cut_str {us : List Str} {lo hi : Option Int} : ∃ ms : List Str, cutV (us.map V.str) lo hi = ms.map V.str ∧ ms.length ≤ us.length ∧ ∀ x ∈ ms, x ∈ us := by
  refine ⟨(us.drop (HT.sIx us.length 0 lo)).take (HT.sIx us.length us.length hi - HT.sIx us.length 0 lo), ?_, ?_, fun x hx => ?_⟩
  · unfold cutV
    rw [List.length_map, List.map_take, List.map_drop]
  · rw [List.length_take, List.length_drop]
    omega
  · exact List.mem_of_mem_drop (List.mem_of_mem_take hx)
section
variable {P : Program} {w : World} {K : PySem.W.Frag} {mg : Str → Option Value} {base : Heap}
theorem ok_overs {f fP fN : Addr} {fd fdP fdN : FuncData} (F : Fun K "_law_overs" "_law_overs" sOvers f fd) (CP : Cal K mg "_law_pick" fP fdP ["_law_script", "_law_k"]) (GP : FnOk P w K mg base CX0 1 fP fdP ["_law_script", "_law_k"] (spPick K))
    (CN : Cal K mg "_law_number" fN fdN ["_law_script", "_law_k"]) (GN : FnOk P w K mg base CX0 2 fN fdN ["_law_script", "_law_k"] (spNumber K)) (ml : mg "len" = none) :
    FnOk P w K mg base CX0 3 f fd ["_law_script", "_law_names_here", "_law_k"] (spOvers K) := by
  refine F.ok scOvers (fun vs H Q E h => ?_) (fun cdv A outer s H vs Q E hr h => ?_)
  · obtain ⟨a, l, ns, ws, k, rfl, _⟩ := h
    rfl
  · obtain ⟨a, l, ns, ws, k, rfl, hS, hl, hW, wne, wl, k0, k1, q⟩ := h
    have hr1 : Room 1 _ := hr.mono (by decide)
    refine ⟨_, pss_cons (ps_if (PW.pt (pw_and (pt_cmpR op_eq (pe_op op_mod (pe_call GP hr1 rfl CP.mgf CP.kp CP.b .nil pass0 (pa_cons (pv 0) (pa_cons pe_int pa_nil))) pe_int) pe_int (nomark _))
          (pw_and1 (pt_cmpR op_ge (pe_call GP hr1 rfl CP.mgf CP.kp CP.b .nil pass0 (pa_cons (pv 0) (pa_cons (pe_op op_add pe_int (pv 2)) pa_nil))) (pe_op op_pow pe_int pe_int) (nomark _)))))
        (pss_cons (ps_set (i := 3) scOvers.nd rfl (.inl rfl) (pe_call GP hr1 rfl CP.mgf CP.kp CP.b .nil pass0 (pa_cons (pv 0) (pa_cons (pe_op op_add pe_int (pv 2)) pa_nil))))
        (pss_cons (ps_set (i := 4) scOvers.nd rfl (.inl rfl) (pe_lst pa_nil))
        (pss_cons (ps_for PassesOwn.never rfl (pi_list (pv 1)) (pg_name (i := 5) scOvers.nd rfl (.inl rfl))
          (C8.pss_cut (ps_if (pt_cmpR op_eq (pe_op op_mod (pv 3) pe_int) pe_int (nomark _))
            (pss_one (ps_expr (pe_bm PySem.F.plainAttrs_list PySem.F.slot_list_append PySem.F.type_list_append mt_append (pv 4) (pa_cons (pv 5) pa_nil)))) pss_nil)
          (pss_one (ps_set (i := 3) scOvers.nd rfl (.inl rfl) (pe_op op_fdiv (pv 3) pe_int)))))
        (pss_one (ps_ret (pv 4)))))) pss_nil)
      (pss_cons (ps_set (i := 3) scOvers.nd rfl (.inl rfl) (pe_call GN hr rfl CN.mgf CN.kp CN.b .nil pass0 (pa_cons (pv 0) (pa_cons (pe_op op_add pe_int (pv 2)) pa_nil))))
      (pss_one (ps_ret (pe_slice sl_list (pe_lst (pa_cons
          (pe_ix ix_list (pv 1) (pe_op op_mod (pe_op op_fdiv (pv 3) pe_int) (pe_callB call_len_seq (by rfl) ml PySem.boot_len (pa_cons (pv 1) pa_nil))) (fun _ _ => rfl)) (pa_cons
          (pe_ix ix_list (pv 1) (pe_op op_mod (pe_op op_fdiv (pv 3) pe_int) (pe_callB call_len_seq (by rfl) ml PySem.boot_len (pa_cons (pv 1) pa_nil))) (fun _ _ => rfl)) pa_nil)))
        po_none (po_some (pe_op op_mod (pv 3) pe_int)))))), ?_⟩
    have wpos : (0 : Int) < (ws.length : Int) := by
      have := List.length_pos_iff.mpr wne
      omega
    have pickAt : ∀ z : Int, ∃ x, atI (ws.map V.str) (z % (ws.length : Int)) = some (V.str x) ∧ x ∈ ws := fun z => by
      have h1 : 0 ≤ z % (ws.length : Int) := Int.emod_nonneg _ (by omega)
      have h2 : z % (ws.length : Int) < ws.length := Int.emod_lt_of_pos _ wpos
      obtain ⟨j, hj⟩ : ∃ j : Nat, z % (ws.length : Int) = (j : Int) := ⟨(z % (ws.length : Int)).toNat, by omega⟩
      have hlt : j < ws.length := by omega
      refine ⟨ws[j], ?_, List.getElem_mem hlt⟩
      rw [hj]
      refine atI_nat ?_
      rw [List.getElem?_map, List.getElem?_eq_getElem hlt]
      rfl
    -- pick(script, 0) % 2 == 0
    refine ⟨_, rfl, a, ns, 0, rfl, hS, hl, fun z0 H1 s1 => ?_⟩
    refine ⟨z0, 2, rfl, rfl, (by show (0 : Int) < 2; decide), rfl, _, rfl, ?_⟩
    -- what stands behind the if
    suffices rest : ∀ H2, Same H H2 → _ by
      refine ite2 (fun _ => ?_) (fun _ => ?_)
      · refine ⟨_, rfl, _, rfl, 25, k, rfl, rfl, a, ns, _, rfl, s1.seq hS, hl, fun z1 H2 s2 => ?_⟩
        refine ⟨10, 9, rfl, rfl, ⟨by decide, by decide, by decide⟩, _, _, rfl, rfl, _, rfl, ?_⟩
        refine ite2 (fun _ => ?_) (fun _ => ?_)
        · -- the bits of a cell
          have s12 : Same H H2 := s1.trans s2
          refine ⟨_, rfl, _, rfl, 25, k, rfl, rfl, a, ns, _, rfl, s12.seq hS, hl, fun z2 H3 s3 => ?_⟩
          refine ⟨Nat.zero_le _, fun p np => ?_⟩
          have s13 : Same H H3 := s12.trans s3
          have np0 : H p = none := s13.free np
          refine ⟨_, rfl, l, rfl, ⟨_, (s13.trans (same_upd np)).seq hW⟩, for_list (K := K) (a := l) (xs := ws.map V.str)
            (fun i σ H' => ∃ (us : List Str) (z : Int) (y5 : Option V), σ = [some (.ref a), some (.ref l), some (.int k), some (.int z), some (.ref p), y5] ∧ Same H H' ∧ H' p = some (.lst (us.map V.str)) ∧ us.length ≤ i ∧ ∀ x ∈ us, x ∈ ws)
            ⟨[], z2, none, rfl, sPut s13 np, upd_same, Nat.le_refl _, fun x hx => (by cases hx)⟩ (fun i σ H' _ ⟨_, _, _, _, s4, _⟩ => s4.seq hW) ?_ ?_⟩
          · rintro i x σ H' hx ⟨us, z, y5, rfl, s4, hp, hul, hus⟩
            obtain ⟨y, hy, rfl⟩ := mapS_at hx
            have hil : i < ws.length := (List.getElem?_eq_some_iff.mp hy).1
            refine ⟨fun σ' H'' => ∃ us : List Str, σ' = [some (.ref a), some (.ref l), some (.int k), some (.int z), some (.ref p), some (.str y)] ∧ Same H H'' ∧ H'' p = some (.lst (us.map V.str)) ∧ us.length ≤ i + 1 ∧ ∀ x ∈ us, x ∈ ws, ?_, ?_⟩
            · refine ⟨_, rfl, z, 2, rfl, rfl, (by show (0 : Int) < 2; decide), rfl, _, rfl, ?_⟩
              refine ite2 (fun _ => ?_) (fun _ => ?_)
              · refine ⟨_, rfl, .inl ⟨rfl, _, SqL.of hp⟩, _, rfl, p, _, _, rfl, rfl, hp, ?_, ?_⟩
                · rw [List.length_map]
                  exact small1000 (by omega)
                · refine ⟨us ++ [y], rfl, sRe s4 np0, ?_, ?_, ?_⟩
                  · rw [upd_same, List.map_append]
                    rfl
                  · rw [List.length_append]
                    simp
                    omega
                  · intro x hx
                    rcases List.mem_append.mp hx with hx | hx
                    · exact hus x hx
                    · rw [List.mem_singleton.mp hx]
                      exact List.mem_of_getElem? hy
              · exact ⟨us, rfl, s4, hp, by omega, hus⟩
            · rintro σ' H'' ⟨us', rfl, s5, hp', hul', hus'⟩
              exact ⟨_, rfl, z, 2, rfl, rfl, ⟨by decide, by decide⟩, us', _, _, rfl, s5, hp', hul', hus'⟩
          · rintro σ H' ⟨us, z, y5, rfl, s4, hp, hul, hus⟩
            rw [List.length_map] at hul
            exact ⟨_, rfl, q us p H' (by omega) hus s4 np0 hp⟩
        · exact rest H2 (s1.trans s2)
      · exact rest H1 s1
    -- two at most
    intro H2 s2
    refine ⟨_, rfl, _, rfl, 24, k, rfl, rfl, a, ns, _, rfl, s2.seq hS, hl, by omega, by omega, fun z H3 s3 => ?_⟩
    have s23 : Same H H3 := s2.trans s3
    have hW3 := s23.seq hW
    obtain ⟨x1, e1, m1⟩ := pickAt (z / 3)
    obtain ⟨x2, e2, m2⟩ := pickAt (z / 90)
    have el : ((ws.map V.str).length : Int) = (ws.length : Int) := by rw [List.length_map]
    refine ⟨_, rfl, _, rfl, z, 3, rfl, rfl, ⟨by decide, by decide⟩, _, rfl, l, _, rfl, .inl hW3, z / 3, (ws.length : Int), rfl, by rw [el], wpos, l, _, _, _, rfl, rfl, hW3, e1, ?_⟩
    refine ⟨_, rfl, _, rfl, z, 90, rfl, rfl, ⟨by decide, by decide⟩, _, rfl, l, _, rfl, .inl hW3, z / 90, (ws.length : Int), rfl, by rw [el], wpos, l, _, _, _, rfl, rfl, hW3, e2, ?_⟩
    refine ⟨(by show 2 ≤ sizeLine; decide), fun p np => ?_⟩
    refine ⟨_, rfl, z, 3, rfl, rfl, (by show (0 : Int) < 3; decide), z % 3, rfl, p, _, rfl, SqL.of upd_same, fun r nr => ?_⟩
    obtain ⟨ms, em, hml, hms⟩ := cut_str (us := [x1, x2]) (lo := none) (hi := some (z % 3))
    refine q ms r _ (Nat.le_trans hml (by show 2 ≤ 24; decide)) (fun x hx => ?_) (sPut (sPut s23 np) nr) (s23.free (Same.free (same_upd np) nr)) ?_
    · have := hms x hx
      simp only [List.mem_cons, List.not_mem_nil, or_false] at this
      rcases this with e | e
      · rw [e]; exact m1
      · rw [e]; exact m2
    · rw [upd_same]
      exact congrArg (fun l => some (HO.lst l)) em
end
end Rs
/-! comprehensions over texts; tables of lists -/
namespace Rs
open PySem PySem.Spec PyProof.Rows L2
/-- [F y for y in ys if p y], the heap may grow -/
theorem lc_S {K : PySem.W.Frag} {a : Addr} {ys : List Str} {g : TG} {tt : TT} {te : TE} {vs : List Nat} {σ : L2.St} {H1 : Hp} {D : Addr} {Qd : Hp → Prop} (F : Str → V) (p : Str → Bool) (n1 : H1 D = none) (hq : SqL K H1 a (ys.map V.str)) (hl : ys.length ≤ 1000)
    (hs : ∀ (y : Str) (H : Hp) (N : V → Hp → Prop) (M : Hp → Prop), y ∈ ys → Same H1 H → (p y = true → ∀ H4, Same H H4 → N (F y) H4) → (p y = false → ∀ H4, Same H H4 → M H4) →
      g (.str y) (wipe σ vs) H fun σ2 H2 => wipe σ2 vs = wipe σ vs ∧ tt σ2 H2 fun b H3 => if b = true then te σ2 H3 N else M H3)
    (hd : ∀ H, Same H1 H → H D = some (.lst ((ys.filter p).map F)) → Qd H) :
    ∃ W : Nat → Nat → Hp → Prop, (∃ m, W 0 m (upd H1 D (.lst []))) ∧ ∀ i m H, W i m H →
      ((Itl K a).stop i H ∧ Qd H) ∨ ((Itl K a).go i H ∧ ∃ Nx : Hp → Prop, (∀ H', Nx H' → ∃ m', m' < m ∧ W (i + 1) m' H') ∧ ∀ x H', (Itl K a).yld i H x H' → g x (wipe σ vs) H' fun σ2 H2 => wipe σ2 vs = wipe σ vs ∧ tt σ2 H2 fun b H3 =>
        if b = true then te σ2 H3 fun y H4 => ∃ acc, H4 D = some (.lst acc) ∧ acc.length < sizeLine ∧ Nx (upd H4 D (.lst (acc ++ [y]))) else Nx H3) := by
  refine lc_list (K := K) (a := a) (xs := ys.map V.str) (fun i H => Same H1 H ∧ H D = some (.lst (((ys.take i).filter p).map F))) ⟨same_upd n1, by rw [upd_same]; rfl⟩ (fun i H _ h => h.1.seq hq) ?_ ?_
  · rintro i x H hx ⟨s, e⟩
    obtain ⟨y, hy, rfl⟩ := mapS_at hx
    have et : ys.take (i + 1) = ys.take i ++ [y] := by rw [List.take_add_one, hy]; rfl
    refine hs y H _ _ (List.mem_of_getElem? hy) s (fun hp H4 s4 => ⟨_, s4 _ _ e, ?_, sRe (s.trans s4) n1, ?_⟩) (fun hp H4 s4 => ⟨s.trans s4, ?_⟩)
    · rw [List.length_map]
      have h1 := List.length_filter_le p (ys.take i)
      have h2 : (ys.take i).length ≤ ys.length := by rw [List.length_take]; omega
      exact small1000 (by omega)
    · rw [upd_same, et, List.filter_append, List.map_append, List.filter_cons_of_pos hp]
      rfl
    · rw [et, List.filter_append, List.map_append, List.filter_cons_of_neg (by rw [hp]; exact Bool.false_ne_true), s4 _ _ e]
      simp
  · rintro H ⟨s, e⟩
    refine hd H s ?_
    rw [e, List.length_map, List.take_length]
/-- [F c for c in x], sign by sign -/
theorem lc_its {x : Str} {g : TG} {te : TE} {vs : List Nat} {σ : L2.St} {H1 : Hp} {D : Addr} {Qd : Hp → Prop} (F : Nat → V) (n1 : H1 D = none) (hl : x.length ≤ 1000)
    (hs : ∀ (c : Nat) (H : Hp) (N : V → Hp → Prop), c ∈ x.cps.toList → Same H1 H → (∀ H4, Same H H4 → N (F c) H4) → g (.str ⟨#[c]⟩) (wipe σ vs) H fun σ2 H2 => wipe σ2 vs = wipe σ vs ∧ tYes σ2 H2 fun b H3 => if b = true then te σ2 H3 N else False)
    (hd : ∀ H, Same H1 H → H D = some (.lst (x.cps.toList.map F)) → Qd H) :
    ∃ W : Nat → Nat → Hp → Prop, (∃ m, W 0 m (upd H1 D (.lst []))) ∧ ∀ i m H, W i m H →
      ((Its x).stop i H ∧ Qd H) ∨ ((Its x).go i H ∧ ∃ Nx : Hp → Prop, (∀ H', Nx H' → ∃ m', m' < m ∧ W (i + 1) m' H') ∧ ∀ v H', (Its x).yld i H v H' → g v (wipe σ vs) H' fun σ2 H2 => wipe σ2 vs = wipe σ vs ∧ tYes σ2 H2 fun b H3 =>
        if b = true then te σ2 H3 fun y H4 => ∃ acc, H4 D = some (.lst acc) ∧ acc.length < sizeLine ∧ Nx (upd H4 D (.lst (acc ++ [y]))) else Nx H3) := by
  have sz : x.cps.toList.length = x.cps.size := Array.length_toList
  have mono : ∀ {σ2 : L2.St} {H2 : Hp} {N : V → Hp → Prop} {M : Hp → Prop}, (tYes σ2 H2 fun b H3 => if b = true then te σ2 H3 N else False) → tYes σ2 H2 fun b H3 => if b = true then te σ2 H3 N else M H3 := fun h => h
  refine ⟨fun i m H => i + m = x.cps.size ∧ Same H1 H ∧ H D = some (.lst ((x.cps.toList.take i).map F)), ⟨x.cps.size, Nat.zero_add _, same_upd n1, by rw [upd_same]; rfl⟩, ?_⟩
  rintro i m H ⟨em, s, e⟩
  by_cases hi : i < x.cps.size
  · refine .inr ⟨hi, fun H' => Same H1 H' ∧ H' D = some (.lst ((x.cps.toList.take (i + 1)).map F)), fun H' h => ⟨m - 1, by omega, by omega, h⟩, ?_⟩
    rintro v H' ⟨rfl, c, hc, rfl⟩
    have hc' : x.cps.toList[i]? = some c := by rw [Array.getElem?_toList]; exact hc
    refine hs c _ _ (List.mem_of_getElem? hc') s fun H4 s4 => ⟨_, s4 _ _ e, ?_, sRe (s.trans s4) n1, ?_⟩
    · rw [List.length_map, List.length_take, sz]
      have : x.cps.size ≤ 1000 := hl
      exact small1000 (by omega)
    · rw [upd_same, List.take_add_one, hc', List.map_append]
      rfl
  · refine .inl ⟨by show x.cps.size ≤ i; omega, hd H s ?_⟩
    rw [e, List.take_of_length_le (by rw [sz]; omega)]
/-! ### tables: a dict from names to lists -/
def tabK (ws : List Str) (A : Str → Addr) : List (Key × V) := ws.map fun x => ((Sum.inr x : Key), V.ref (A x))
structure Tab (H : Hp) (d : Addr) (ws : List Str) (A : Str → Addr) (U : Str → List Str) : Prop where
  dc : H d = some (.dK (tabK ws A))
  ls : ∀ x ∈ ws, H (A x) = some (.lst ((U x).map V.str))
theorem Tab.same {H H' : Hp} {d : Addr} {ws : List Str} {A : Str → Addr} {U : Str → List Str} (t : Tab H d ws A U) (s : Same H H') : Tab H' d ws A U := ⟨s _ _ t.dc, fun x hx => s _ _ (t.ls x hx)⟩
theorem tabK_len (ws : List Str) (A : Str → Addr) : (tabK ws A).length = ws.length := List.length_map ..
theorem tabK_in {ws : List Str} {A : Str → Addr} {x : Str} (h : x ∈ ws) : valV (tabK ws A) (Sum.inr x) = some (V.ref (A x)) := by
  induction ws with
  | nil => cases h
  | cons y r ih =>
    by_cases e : y = x
    · subst e
      exact valV_pos (p := ((Sum.inr y : Key), V.ref (A y))) rfl
    · have h2 : x ∈ r := by
        rcases List.mem_cons.mp h with q | q
        · exact absurd q.symm e
        · exact q
      exact (valV_neg (p := ((Sum.inr y : Key), V.ref (A y))) (fun z => e (Sum.inr.inj z))).trans (ih h2)
theorem tabK_out {ws : List Str} {A : Str → Addr} {x : Str} (h : x ∉ ws) : valV (tabK ws A) (Sum.inr x) = none := by
  induction ws with
  | nil => rfl
  | cons y r ih =>
    have e : ¬ y = x := fun e => h (e ▸ List.mem_cons_self ..)
    exact (valV_neg (p := ((Sum.inr y : Key), V.ref (A y))) (fun z => e (Sum.inr.inj z))).trans (ih fun q => h (List.mem_cons_of_mem _ q))
theorem tabK_keys (ws : List Str) (A : Str → Addr) : (tabK ws A).map (fun kv => kV kv.1) = ws.map V.str := by
  unfold tabK
  rw [List.map_map]
  rfl
theorem tabK_put {ws : List Str} {A : Str → Addr} {x : Str} (h : x ∉ ws) : putK (tabK ws A) (Sum.inr x) (V.ref (A x)) = tabK (ws ++ [x]) A := by
  rw [putK_new _ (tabK_out h)]
  unfold tabK
  rw [List.map_append]
  rfl
/-- the table's addresses matter on its names alone -/
theorem tabK_congr {ws : List Str} {A B : Str → Addr} (h : ∀ x ∈ ws, A x = B x) : tabK ws A = tabK ws B := List.map_congr_left fun x hx => by rw [h x hx]
theorem tabK_drop (ws : List Str) (A : Str → Addr) (x : Str) : dropK (tabK ws A) (Sum.inr x) = tabK (ws.filter fun y => decide (y ≠ x)) A := by
  unfold dropK tabK
  rw [List.filter_map]
  congr 1
  apply List.filter_congr
  intro y _
  show decide ((Sum.inr y : Key) ≠ Sum.inr x) = decide (y ≠ x)
  exact decide_eq_decide.mpr ⟨fun h z => h (z ▸ rfl), fun h z => h (Sum.inr.inj z)⟩
/-- what a table holds at a name -/
theorem Tab.get {H : Hp} {d : Addr} {ws : List Str} {A : Str → Addr} {U : Str → List Str} (t : Tab H d ws A U) {x : Str} (h : x ∈ ws) : DGet H d (V.str x) (some (V.ref (A x))) := by
  have := DGet.k (k := (Sum.inr x : Key)) t.dc
  rw [tabK_in h] at this
  exact this
theorem Tab.has {H : Hp} {d : Addr} {ws : List Str} {A : Str → Addr} {U : Str → List Str} (t : Tab H d ws A U) (x : Str) : ∃ o, DGet H d (V.str x) o ∧ o.isSome = decide (x ∈ ws) := by
  refine ⟨_, DGet.k (k := (Sum.inr x : Key)) t.dc, ?_⟩
  by_cases h : x ∈ ws
  · rw [tabK_in h, decide_eq_true h]; rfl
  · rw [tabK_out h, decide_eq_false h]; rfl
/-- keys alone -/
theorem key_has {H : Hp} {d : Addr} {ws : List Str} {A : Str → Addr} (e : H d = some (.dK (tabK ws A))) (x : Str) : ∃ o, DGet H d (V.str x) o ∧ o.isSome = decide (x ∈ ws) := by
  refine ⟨_, DGet.k (k := (Sum.inr x : Key)) e, ?_⟩
  by_cases h : x ∈ ws
  · rw [tabK_in h, decide_eq_true h]; rfl
  · rw [tabK_out h, decide_eq_false h]; rfl
/-! ### == with the empty list -/
theorem dp_strs {K : PySem.W.Frag} {H : Hp} : ∀ ys : List Str, DpAll K H (ys.map V.str) (ys.map PyData.str)
  | [] => .nil
  | y :: r => .cons (.str y) (dp_strs r)
theorem eqv_nil (ys : List Str) : PyData.eqv (.list (ys.map PyData.str)) (.list []) = decide (ys = []) := by
  cases ys with
  | nil => rfl
  | cons y r => rfl
theorem lay_strs : ∀ ys : List Str, (∀ y ∈ ys, NmS y) → PyData.canLayAll0 (ys.map PyData.str) = true ∧ PyData.depthAll (ys.map PyData.str) = 0
  | [], _ => ⟨rfl, rfl⟩
  | y :: r, h => by
    obtain ⟨h1, h2⟩ := lay_strs r fun z hz => h z (List.mem_cons_of_mem _ hz)
    have hy : PySem.PyData.strOk y = true := by
      show y.cps.all (· < 0x110000) = true
      rw [← Array.all_toList]
      refine List.all_eq_true.mpr fun c hc => ?_
      have := (h y (List.mem_cons_self ..)).low c hc
      simp
      omega
    constructor
    · show (PySem.PyData.strOk y && PyData.canLayAll0 (r.map PyData.str)) = true
      rw [hy, h1]
      rfl
    · show max 0 (PyData.depthAll (r.map PyData.str)) = 0
      rw [h2]
      rfl
theorem shaped_strs {ys : List Str} (h : ∀ y ∈ ys, NmS y) : SeqAt.shaped (.list (ys.map PyData.str)) = true := by
  obtain ⟨h1, h2⟩ := lay_strs ys h
  show (PyData.canLayAll0 (ys.map PyData.str) && decide (PyData.depthAll (ys.map PyData.str) + 1 ≤ 64)) = true
  rw [h1, h2]
  rfl
end Rs
/-! walks: is_name, look_at_names -/
namespace Rs
open PySem PySem.Spec PyProof.Rows L2
def spIsName : Sp := fun vs H Q _ => ∃ x : Str, vs = [.str x] ∧ NmS x ∧ ∀ H', Same H H' → Q (.bl true) H'
/-- a list of tuples (name, list of names) -/
structure Tps (K : PySem.W.Frag) (H : Hp) (l : Addr) (ws : List Str) (T B : Str → Addr) (U : Str → List Str) : Prop where
  sq : SqL K H l (ws.map fun x => V.ref (T x))
  tp : ∀ x ∈ ws, H (T x) = some (.tup [.str x, .ref (B x)])
  ls : ∀ x ∈ ws, H (B x) = some (.lst ((U x).map V.str))
theorem Tps.same {K : PySem.W.Frag} {H H' : Hp} {l : Addr} {ws : List Str} {T B : Str → Addr} {U : Str → List Str} (t : Tps K H l ws T B U) (s : Same H H') : Tps K H' l ws T B U :=
  ⟨s.seq t.sq, fun x hx => s _ _ (t.tp x hx), fun x hx => s _ _ (t.ls x hx)⟩
/-- names with lists of names over them -/
structure Wb (ws : List Str) (U : Str → List Str) : Prop where
  nd : ws.Nodup
  len : ws.length ≤ 24
  nm : ∀ x ∈ ws, NmS x
  ul : ∀ x ∈ ws, (U x).length ≤ 24
  us : ∀ x ∈ ws, ∀ u ∈ U x, u ∈ ws
theorem mapT_at {ws : List Str} {T : Str → Addr} {i : Nat} {v : V} (h : (ws.map fun x => V.ref (T x))[i]? = some v) : ∃ x, ws[i]? = some x ∧ v = V.ref (T x) := by
  rw [List.getElem?_map] at h
  cases e : ws[i]? with
  | none => rw [e] at h; cases h
  | some y => rw [e] at h; exact ⟨y, rfl, (Option.some.inj h).symm⟩
def spLook (K : PySem.W.Frag) : Sp := fun vs H Q _ => ∃ (l : Addr) (ws : List Str) (T B : Str → Addr) (U : Str → List Str), vs = [.ref l] ∧ Tps K H l ws T B U ∧ Wb ws U ∧ ∀ H', Same H H' → Q .non H'
section
variable {P : Program} {w : World} {K : PySem.W.Frag} {mg : Str → Option Value} {base : Heap}
theorem ok_isname {f aO : Addr} {fd : FuncData} {tL tM : Tok} (F : Fun K "is_name" "is_name" sIsName f fd) (mi : mg "isinstance" = none) (ms : mg "str" = none) (ml : mg "len" = none) (ma : mg "all" = none)
    (mL : mg "LETTERS" = some (.str "abcdefghijklmnopqrstuvwxyz" tL)) (mM : mg "MOST_LETTERS" = some (.int 8 tM)) (mO : mg "OTHER_WORDS" = some (.ref aO)) (sO : ∀ H : Hp, SqT K H aO ((["any", "none", "blank", "new", "on"] : List Str).map V.str)) :
    FnOk P w K mg base CX0 1 f fd ["thing"] spIsName := by
  refine F.ok scIsName (fun vs H Q E h => ?_) (fun cdv A outer s H vs Q E hr h => ?_)
  · obtain ⟨x, rfl, _⟩ := h
    rfl
  · obtain ⟨x, rfl, hx, q⟩ := h
    refine ⟨_, pss_cons (ps_if (PW.pt (pw_or (pt_not (pt_val (pe_callB call_isi (by rfl) mi (by decide +kernel) (pa_cons (pv 0) (pa_cons (pe_bltn (v := .ty "str") (u := .type "str") (by rfl) ms (by decide +kernel) rfl) pa_nil)))))
          (pw_or (pt_cmpR op_eq (pv 0) pe_str (nomark _)) (pw_or1 (pt_cmpR op_gt (pe_callB call_len_str (by rfl) ml PySem.boot_len (pa_cons (pv 0) pa_nil)) (pe_glob (v := .int 8) (by rfl) mM ⟨_, rfl⟩) (nomark _))))))
        (pss_one (ps_ret pe_bl)) pss_nil)
      (pss_one (ps_ret (pe_and (pe_cmpR op_notIn_seq (pv 0) (pe_glob (v := .ref aO) (by rfl) mO rfl) rfl)
        (pe_one (pe_callB (cr_all rfl) (by rfl) ma (by decide +kernel) (pa_cons
          (pe_lc (own := [("sign", 1)]) (g := gName 1) (tt := tYes) rfl scIsName.nd (pi_str (pv 0)) (blkOk_by (N := ["thing", "sign"]) (sc := defScope sIsName) (by decide +kernel)) (fun _ _ _ _ _ => pg_name (i := 1) scIsName.nd rfl (Or.inl rfl)) (fun _ _ _ _ _ => pts_nil)
            (fun _ _ _ _ _ => pe_cmpR op_in_sign (pv 1) (pe_glob (v := .str "abcdefghijklmnopqrstuvwxyz") (by rfl) mL ⟨_, rfl⟩) rfl)) pa_nil)))))), ?_⟩
    have xl : x.length = x.cps.toList.length := by show x.cps.size = _; rw [Array.length_toList]
    have h8 : x.length ≤ 8 := by rw [xl]; exact hx.len
    have hne : x ≠ ("" : Str) := fun e => hx.ne (by rw [e]; decide +kernel)
    -- isinstance(thing, str)
    refine ⟨_, rfl, .str x, .ty "str", .type "str", .type "str", true, rfl, .ty "str", .base (.str x), kit_ty (by decide +kernel), true, rfl, ?_⟩
    refine iteF ?_
    -- thing == ''
    refine ⟨_, rfl, rfl, _, rfl, ?_⟩
    rw [decide_eq_false (fun e => hne (V.str.inj e))]
    refine iteF ?_
    -- len(thing) > MOST_LETTERS
    refine ⟨_, rfl, x, rfl, small (by omega), (x.length : Int), 8, rfl, rfl, _, rfl, ?_⟩
    rw [decide_eq_false (show ¬ (8 : Int) < (x.length : Int) by omega)]
    refine iteF ?_
    -- thing not in OTHER_WORDS
    have hfree : x ∉ (["any", "none", "blank", "new", "on"] : List Str) := by
      rw [← specS_eq]
      intro h
      have := (mem_specS x.cps.toList).1 (by rw [ofC_list]; exact h)
      exact hx.free this
    refine ⟨_, rfl, aO, _, rfl, .inr (sO H), rfl, flatS _, ?_⟩
    rw [if_pos rfl, inS, decide_eq_false hfree]
    refine ⟨true, rfl, ?_⟩
    refine iteT ?_
    -- all([sign in LETTERS for sign in thing])
    refine ⟨_, rfl, x, rfl, fun D nD => ?_⟩
    refine lc_its (fun c => V.bl (decide (c ∈ ("abcdefghijklmnopqrstuvwxyz" : Str).cps.toList))) nD (by omega) (fun c H1 N hc s1 hN => ?_) (fun H1 s1 e1 => ?_)
    · refine ⟨rfl, ?_⟩
      refine iteT (B := False) ?_
      exact ⟨_, rfl, c, _, rfl, rfl, hN _ (Same.refl _)⟩
    · refine ⟨D, x.cps.toList.map fun c => decide (c ∈ ("abcdefghijklmnopqrstuvwxyz" : Str).cps.toList), rfl, ?_, ?_⟩
      · rw [List.map_map]
        exact SqL.of e1
      · have : (x.cps.toList.map fun c => decide (c ∈ ("abcdefghijklmnopqrstuvwxyz" : Str).cps.toList)).all id = true := by
          rw [List.all_map]
          refine List.all_eq_true.mpr fun c hc => ?_
          have hl := hx.low c hc
          show decide _ = true
          refine decide_eq_true ?_
          have := letters_at (c - 97) (by omega)
          rw [show 97 + (c - 97) = c by omega] at this
          exact List.mem_of_getElem? this
        rw [this]
        exact q H1 s1
end
end Rs
/-! walk: look_at_names -/
namespace Rs
open PySem PySem.Spec PyProof.Rows L2
theorem filter_all {α : Type} (l : List α) : l.filter (fun _ => true) = l := by
  induction l with
  | nil => rfl
  | cons x r ih => rw [List.filter_cons_of_pos rfl, ih]
section
variable {P : Program} {w : World} {K : PySem.W.Frag} {mg : Str → Option Value} {base : Heap}
theorem ok_look {f fI : Addr} {fd fdI : FuncData} (F : Fun K "look_at_names" "look_at_names" sLook f fd) (CI : Cal K mg "is_name" fI fdI ["thing"]) (GI : FnOk P w K mg base CX0 1 fI fdI ["thing"] spIsName)
    (ml : mg "len" = none) (ma : mg "all" = none) (ms : mg "set" = none) : FnOk P w K mg base CX0 2 f fd ["tuples"] (spLook K) := by
  refine F.ok scLook (fun vs H Q E h => ?_) (fun cdv A outer s H vs Q E hr h => ?_)
  · obtain ⟨l, ws, T, B, U, rfl, _⟩ := h
    rfl
  · obtain ⟨l, ws, T, B, U, rfl, tp, W, q⟩ := h
    refine ⟨_, pss_cons (ps_for PassesOwn.never rfl (pi_list (pv 0)) (pg_tup rfl (pgs_cons (pg_name (i := 1) scLook.nd rfl (.inl rfl)) (pgs_cons (pg_name (i := 2) scLook.nd rfl (.inl rfl)) pgs_nil)))
        (pss_one (ps_if (PW.pt (pw_or (pt_not (pt_val (pe_call GI hr (by rfl) CI.mgf CI.kp CI.b .nil pass0 (pa_cons (pv 1) pa_nil))))
            (pw_or1 (pt_not (pt_val (pe_callB (cr_all rfl) (by rfl) ma (by decide +kernel) (pa_cons
              (pe_lc (own := [("one", 4)]) (g := gName 4) (tt := tYes) rfl scLook.nd (pi_list (pv 2)) (blkOk_by (N := ["tuples", "name", "over", "names", "one"]) (sc := defScope sLook) (by decide +kernel)) (fun _ _ _ _ _ => pg_name (i := 4) scLook.nd rfl (Or.inl rfl)) (fun _ _ _ _ _ => pts_nil)
                (fun _ _ _ _ _ => pe_call GI hr (by rfl) CI.mgf CI.kp CI.b .nil pass0 (pa_cons (pv 4) pa_nil))) pa_nil)))))))
          (pss_one ps_never) pss_nil)))
      (pss_cons (ps_set (i := 3) scLook.nd rfl (.inr rfl)
          (pe_lc (own := [("name", 1), ("over", 2)]) (g := gTup K 2 (gCons (gName 1) (gCons (gName 2) gNil))) (tt := tYes) rfl scLook.nd (pi_list (pv 0)) (blkOk_by (N := ["tuples", "name", "over", "names", "one"]) (sc := defScope sLook) (by decide +kernel))
            (fun _ _ _ _ _ => pg_tup rfl (pgs_cons (pg_name (i := 1) scLook.nd rfl (Or.inl rfl)) (pgs_cons (pg_name (i := 2) scLook.nd rfl (Or.inl rfl)) pgs_nil))) (fun _ _ _ _ _ => pts_nil) (fun _ _ _ _ _ => pv 1)))
      (pss_cons (ps_if (pt_cmpR op_lt (pe_lenS (.inl rfl) (by rfl) ml (by rfl) ms (pv 3)) (pe_callB call_len_seq (by rfl) ml PySem.boot_len (pa_cons (pv 3) pa_nil)) (nomark _)) (pss_one ps_never) pss_nil)
      (pss_one (ps_for PassesOwn.never rfl (pi_list (pv 0)) (pg_tup rfl (pgs_cons (pg_name (i := 1) scLook.nd rfl (.inl rfl)) (pgs_cons (pg_name (i := 2) scLook.nd rfl (.inl rfl)) pgs_nil)))
        (pss_one (ps_if (pt_not (pt_val (pe_callB (cr_all rfl) (by rfl) ma (by decide +kernel) (pa_cons
              (pe_lc (own := [("one", 4)]) (g := gName 4) (tt := tYes) (te := tOp (rIn K false) (tVar 4) (tVar 3)) rfl scLook.nd (pi_list (pv 2)) (blkOk_by (N := ["tuples", "name", "over", "names", "one"]) (sc := defScope sLook) (by decide +kernel)) (fun _ _ _ _ _ => pg_name (i := 4) scLook.nd rfl (Or.inl rfl)) (fun _ _ _ _ _ => pts_nil)
                (fun _ _ _ _ _ => pe_cmpR op_in_seq (pv 4) (pv 3) rfl)) pa_nil))))
          (pss_one ps_never) pss_nil)))))), ?_⟩
    have wl := W.len
    -- for name, over in tuples: all are names
    refine ⟨_, rfl, l, rfl, ⟨_, tp.sq⟩, for_list (K := K) (a := l) (xs := ws.map fun x => V.ref (T x)) (fun i σ H1 => ∃ y1 y2, σ = [some (.ref l), y1, y2, none, none] ∧ Same H H1) ⟨none, none, rfl, Same.refl _⟩ (fun i σ H1 _ ⟨_, _, _, s1⟩ => s1.seq tp.sq) ?_ ?_⟩
    · rintro i v σ H1 hv ⟨y1, y2, rfl, s1⟩
      obtain ⟨x, hx, rfl⟩ := mapT_at hv
      have hm : x ∈ ws := List.mem_of_getElem? hx
      have tp1 := tp.same s1
      refine ⟨T x, [.str x, .ref (B x)], rfl, SqT.of (tp1.tp x hm), rfl, .str x, [.ref (B x)], rfl, .ref (B x), [], rfl, rfl, ?_⟩
      refine ⟨_, rfl, x, rfl, W.nm x hm, fun H2 s2 => ⟨true, rfl, ?_⟩⟩
      refine iteF ?_
      have tp2 := tp1.same s2
      refine ⟨_, rfl, B x, rfl, ⟨_, SqL.of (tp2.ls x hm)⟩, fun D nD => ?_⟩
      have ul := W.ul x hm
      refine lc_S (K := K) (a := B x) (ys := U x) (fun _ => V.bl true) (fun _ => true) nD (SqL.of (tp2.ls x hm)) (by omega) (fun y H3 N M hy s3 hT hF => ?_) (fun H3 s3 e3 => ?_)
      · refine ⟨rfl, ?_⟩
        refine iteT (B := M H3) ?_
        exact ⟨_, rfl, y, rfl, W.nm y (W.us x hm y hy), fun H4 s4 => hT rfl H4 s4⟩
      · refine ⟨D, (U x).map fun _ => true, rfl, ?_, ?_⟩
        · rw [List.map_map]
          rw [filter_all] at e3
          exact SqL.of e3
        · have : ((U x).map fun _ => true).all id = true := by rw [List.all_map]; exact List.all_eq_true.mpr fun _ _ => rfl
          rw [this]
          refine ⟨true, rfl, ?_⟩
          refine iteF ?_
          exact ⟨_, _, rfl, s1.trans (s2.trans s3)⟩
    · rintro σ H1 ⟨y1, y2, rfl, s1⟩
      have tp1 := tp.same s1
      -- names = [name for name, over in tuples]
      refine ⟨_, rfl, l, rfl, ⟨_, tp1.sq⟩, fun D nD => ?_⟩
      refine lc_list (K := K) (a := l) (xs := ws.map fun x => V.ref (T x)) (fun i H2 => Same H1 H2 ∧ H2 D = some (.lst ((ws.take i).map V.str))) ⟨same_upd nD, by rw [upd_same]; rfl⟩ (fun i H2 _ h2 => h2.1.seq tp1.sq) ?_ ?_
      · rintro i v H2 hv ⟨s2, e2⟩
        obtain ⟨x, hx, rfl⟩ := mapT_at hv
        have hm : x ∈ ws := List.mem_of_getElem? hx
        refine ⟨T x, [.str x, .ref (B x)], rfl, SqT.of ((tp1.same s2).tp x hm), rfl, .str x, [.ref (B x)], rfl, .ref (B x), [], rfl, rfl, ?_⟩
        refine ⟨rfl, ?_⟩
        rw [show (tYes : TT) = fun _ H Q => Q true H from rfl]
        dsimp only
        rw [if_pos rfl]
        refine ⟨_, rfl, _, e2, ?_, sRe s2 nD, ?_⟩
        · rw [List.length_map, List.length_take]
          exact small1000 (by omega)
        · rw [upd_same, List.take_add_one, hx, List.map_append]
          rfl
      · rintro H2 ⟨s2, e2⟩
        rw [List.length_map, List.take_length] at e2
        -- len(set(names)) < len(names)
        refine ⟨_, rfl, D, ws, rfl, SqL.of e2, W.nd, by omega, ?_⟩
        refine ⟨_, rfl, D, _, rfl, .inl (SqL.of e2), _, _, rfl, rfl, _, rfl, ?_⟩
        rw [decide_eq_false (show ¬ ((ws.length : Nat) : Int) < (((ws.map V.str).length : Nat) : Int) by rw [List.length_map]; omega)]
        refine iteF ?_
        have s12 : Same H H2 := s1.trans s2
        -- all over are there
        refine ⟨_, rfl, l, rfl, ⟨_, s12.seq tp.sq⟩, for_list (K := K) (a := l) (xs := ws.map fun x => V.ref (T x)) (fun i σ H3 => ∃ y1 y2, σ = [some (.ref l), y1, y2, some (.ref D), none] ∧ Same H2 H3) ⟨_, _, rfl, Same.refl _⟩ (fun i σ H3 _ ⟨_, _, _, s3⟩ => (s12.trans s3).seq tp.sq) ?_ ?_⟩
        · rintro i v σ H3 hv ⟨z1, z2, rfl, s3⟩
          obtain ⟨x, hx, rfl⟩ := mapT_at hv
          have hm : x ∈ ws := List.mem_of_getElem? hx
          have tp3 := tp.same (s12.trans s3)
          refine ⟨T x, [.str x, .ref (B x)], rfl, SqT.of (tp3.tp x hm), rfl, .str x, [.ref (B x)], rfl, .ref (B x), [], rfl, rfl, ?_⟩
          refine ⟨_, rfl, B x, rfl, ⟨_, SqL.of (tp3.ls x hm)⟩, fun D2 nD2 => ?_⟩
          have ul := W.ul x hm
          refine lc_S (K := K) (a := B x) (ys := U x) (fun u => V.bl (decide (u ∈ ws))) (fun _ => true) nD2 (SqL.of (tp3.ls x hm)) (by omega) (fun y H4 N M hy s4 hT hF => ?_) (fun H4 s4 e4 => ?_)
          · refine ⟨rfl, ?_⟩
            refine iteT (B := M H4) ?_
            refine ⟨_, rfl, _, rfl, D, _, rfl, .inl (SqL.of (s4 _ _ (s3 _ _ e2))), rfl, flatS ws, ?_⟩
            rw [if_neg Bool.false_ne_true, inS]
            exact hT rfl _ (Same.refl _)
          · refine ⟨D2, (U x).map fun u => decide (u ∈ ws), rfl, ?_, ?_⟩
            · rw [List.map_map]
              rw [filter_all] at e4
              exact SqL.of e4
            · have : ((U x).map fun u => decide (u ∈ ws)).all id = true := by
                rw [List.all_map]
                exact List.all_eq_true.mpr fun u hu => decide_eq_true (W.us x hm u hu)
              rw [this]
              refine ⟨true, rfl, ?_⟩
              refine iteF ?_
              exact ⟨_, _, rfl, s3.trans s4⟩
        · rintro σ H3 ⟨z1, z2, rfl, s3⟩
          exact q H3 (s12.trans s3)
end
end Rs
/-! walk: in_rings -/
namespace Rs
open PySem PySem.Spec PyProof.Rows L2
/-- names that hold themselves up -/
def spInRings : Sp := fun vs H Q _ => ∃ (d : Addr) (ws : List Str) (A : Str → Addr) (U : Str → List Str), vs = [.ref d] ∧ Tab H d ws A U ∧ Wb ws U ∧
  ∀ (L : List Str) (p : Addr) H', Rg.Left ws U L → Same H H' → H p = none → H' p = some (.lst (L.map V.str)) → Q (.ref p) H'
section
variable {P : Program} {w : World} {K : PySem.W.Frag} {mg : Str → Option Value} {base : Heap}
abbrev nIR : List Str := ["uppers", "left", "again", "free", "name", "one"]
theorem ok_inrings {f : Addr} {fd : FuncData} (F : Fun K "in_rings" "in_rings" sInRings f fd) (ma : mg "any" = none) (mi : mg "list" = none) : FnOk P w K mg base CX0 1 f fd ["uppers"] spInRings := by
  refine F.ok scInRings (fun vs H Q E h => ?_) (fun cdv A0 outer s H vs Q E hr h => ?_)
  · obtain ⟨d, ws, A, U, rfl, _⟩ := h
    rfl
  · obtain ⟨d, ws, A, U, rfl, tb, W, q⟩ := h
    have hu := hu_of hr
    refine ⟨_, pss_cons (ps_set (i := 1) scInRings.nd rfl (.inr rfl) (pe_callTy (call_list_dK rfl) (by rfl) mi (by decide +kernel) (pa_cons (pv 0) pa_nil)))
      (pss_cons (ps_set (i := 2) scInRings.nd rfl (.inl rfl) pe_bl)
      (pss_cons (ps_while PassesOwn.never (pt_val (pv 2))
        (pss_cons (ps_set (i := 3) scInRings.nd rfl (.inr rfl)
          (pe_lc (own := [("name", 4)]) (g := gName 4) (tt := tNot (tB (tCB (rAny K) (tCons (tLc (iList K (tDGet (tVar 0) (tVar 4))) (gName 5) tYes (tOp (rIn K false) (tVar 5) (tVar 1)) [5]) tNil)))) (te := tVar 4) rfl scInRings.nd (pi_list (pv 1)) (blkOk_by (N := nIR) (sc := defScope sInRings) (by decide +kernel))
            (fun _ _ _ _ _ => pg_name (i := 4) scInRings.nd rfl (Or.inl rfl))
            (fun _ _ _ _ _ => pts_one (pt_not (pt_val (pe_callB (cr_any rfl) (by rfl) ma (by decide +kernel) (pa_cons
              (pe_lc (own := [("one", 5)]) (g := gName 5) (tt := tYes) (te := tOp (rIn K false) (tVar 5) (tVar 1)) rfl scInRings.nd (pi_list (pe_dget hu (pv 0) (pv 4) (fun _ _ => rfl))) (blkOk_by (N := nIR) (by kernel_rfl))
                (fun _ _ _ _ _ => pg_name (i := 5) scInRings.nd rfl (Or.inl rfl)) (fun _ _ _ _ _ => pts_nil) (fun _ _ _ _ _ => pe_cmpR op_in_seq (pv 5) (pv 1) rfl)) pa_nil)))))
            (fun _ _ _ _ _ => pv 4)))
        (pss_cons (ps_set (i := 1) scInRings.nd rfl (.inr rfl)
          (pe_lc (own := [("name", 4)]) (g := gName 4) (tt := tTest (tOp (rIn K true) (tVar 4) (tVar 3))) (te := tVar 4) rfl scInRings.nd (pi_list (pv 1)) (blkOk_by (N := nIR) (sc := defScope sInRings) (by decide +kernel))
            (fun _ _ _ _ _ => pg_name (i := 4) scInRings.nd rfl (Or.inl rfl)) (fun _ _ _ _ _ => pts_one (pt_cmpR op_notIn_seq (pv 4) (pv 3) rfl)) (fun _ _ _ _ _ => pv 4)))
        (pss_one (ps_set (i := 2) scInRings.nd rfl (.inl rfl) (pe_cmpR (op_neD hr.units) (pv 3) (pe_lst pa_nil) (nomark _)))))))
      (pss_one (ps_ret (pv 1))))), ?_⟩
    have wl := W.len
    -- left = list(uppers)
    refine ⟨_, rfl, d, _, rfl, tb.dc, fun p np => ?_⟩
    rw [tabK_keys]
    refine ⟨fun m σ H1 => ∃ (L : List Str) (p : Addr) (b : Bool) (y3 : Option V), σ = [some (.ref d), some (.ref p), some (.bl b), y3, none, none] ∧ Same H H1 ∧ H p = none ∧ H1 p = some (.lst (L.map V.str)) ∧ (∀ x ∈ L, x ∈ ws) ∧ L.Nodup ∧ Rg.Big ws U L ∧
      (b = false → Rg.Left ws U L) ∧ m = (if b = true then L.length + 1 else 0), ⟨_, ws, p, true, none, rfl, same_upd np, np, upd_same, fun x h => h, W.nd, (fun S hS x hx => (hS x hx).1), (fun e => Bool.noConfusion e), rfl⟩, ?_⟩
    rintro m σ H1 ⟨L, p, b, y3, rfl, s1, np, ep, Ls, Lnd, Lb, Lf, em⟩
    refine ⟨_, rfl, b, rfl, ?_⟩
    cases b with
    | false =>
      refine iteF ?_
      exact ⟨_, rfl, q L p H1 (Lf rfl) s1 np ep⟩
    | true =>
      refine iteT ?_
      rw [if_pos rfl] at em
      have Ll := Rg.len_le L ws Lnd Ls
      refine ⟨_, fun σ' H' h => h, ?_⟩
      have tb1 := tb.same s1
      -- free = [..]
      refine ⟨_, rfl, p, rfl, ⟨_, SqL.of ep⟩, fun D nD => ?_⟩
      refine lc_S (K := K) (a := p) (ys := L) (fun y => V.str y) (fun y => !((U y).any fun u => decide (u ∈ L))) nD (SqL.of ep) (by omega) (fun y H2 N M hy s2 hT hF => ?_) (fun H2 s2 e2 => ?_)
      · refine ⟨rfl, ?_⟩
        have hyw := Ls y hy
        have tb2 := tb1.same s2
        refine ⟨_, rfl, _, rfl, d, _, rfl, tb2.get hyw, A y, rfl, ⟨_, SqL.of (tb2.ls y hyw)⟩, fun D2 nD2 => ?_⟩
        have ul := W.ul y hyw
        refine lc_S (K := K) (a := A y) (ys := U y) (fun u => V.bl (decide (u ∈ L))) (fun _ => true) nD2 (SqL.of (tb2.ls y hyw)) (by omega) (fun u H3 N' M' hu' s3 hT' hF' => ?_) (fun H3 s3 e3 => ?_)
        · refine ⟨rfl, ?_⟩
          refine iteT (B := M' H3) ?_
          refine ⟨_, rfl, _, rfl, p, _, rfl, .inl (SqL.of (s3 _ _ (s2 _ _ ep))), rfl, flatS L, ?_⟩
          rw [if_neg Bool.false_ne_true, inS]
          exact hT' rfl _ (Same.refl _)
        · rw [filter_all] at e3
          refine ⟨D2, (U y).map fun u => decide (u ∈ L), rfl, ?_, ?_⟩
          · rw [List.map_map]
            exact SqL.of e3
          · have ea : ((U y).map fun u => decide (u ∈ L)).any id = (U y).any fun u => decide (u ∈ L) := by rw [List.any_map]; rfl
            rw [ea]
            refine ⟨_, rfl, ?_⟩
            cases hc : (U y).any fun u => decide (u ∈ L) with
            | true =>
              refine iteF ?_
              exact hF (by rw [hc]; rfl) H3 s3
            | false =>
              refine iteT ?_
              exact ⟨_, rfl, hT (by rw [hc]; rfl) H3 s3⟩
      · have e2' : H2 D = some (.lst ((Rg.free U L).map V.str)) := e2
        have ep2 := s2 _ _ ep
        -- left = [..]
        refine ⟨_, rfl, p, rfl, ⟨_, SqL.of ep2⟩, fun D2 nD2 => ?_⟩
        refine lc_S (K := K) (a := p) (ys := L) (fun y => V.str y) (fun y => decide (y ∉ Rg.free U L)) nD2 (SqL.of ep2) (by omega) (fun y H3 N M hy s3 hT hF => ?_) (fun H3 s3 e3 => ?_)
        · refine ⟨rfl, ?_⟩
          refine ⟨_, rfl, _, rfl, D, _, rfl, .inl (SqL.of (s3 _ _ e2')), rfl, flatS _, _, rfl, ?_⟩
          rw [if_pos rfl, inS]
          by_cases hf : y ∈ Rg.free U L
          · rw [decide_eq_true hf]
            refine iteF ?_
            exact hF (by rw [decide_eq_false (fun z => z hf)]) H3 (Same.refl _)
          · rw [decide_eq_false hf]
            refine iteT ?_
            exact ⟨_, rfl, hT (by rw [decide_eq_true hf]) H3 (Same.refl _)⟩
        · rw [Rg.sift_eq] at e3
          -- again = free != []
          have e23 := s3 _ _ e2'
          have fnm : ∀ y ∈ Rg.free U L, NmS y := fun y hy => W.nm y (Ls y (List.mem_filter.mp hy).1)
          refine ⟨_, rfl, Nat.zero_le _, fun t nt => ?_⟩
          have st : Same H3 (upd H3 t (.lst [])) := same_upd nt
          refine ⟨.list ((Rg.free U L).map PyData.str), .list [], .lst (SqL.of (st _ _ e23)) (dp_strs _), .lst (SqL.of upd_same) .nil, shaped_strs fnm, rfl, ?_⟩
          rw [eqv_nil]
          have sfin : Same H1 (upd H3 t (.lst [])) := (s2.trans s3).trans st
          have slen := Rg.sift_len U L
          refine ⟨if (!decide (Rg.free U L = [])) = true then (Rg.sift U L).length + 1 else 0, ?_, Rg.sift U L, D2, _, _, rfl, s1.trans sfin, ?_, st _ _ e3, fun x hx => Ls x (Rg.sift_sub U L x hx), Rg.sift_nd U Lnd, Rg.sift_big Lb, ?_, rfl⟩
          · rw [em]
            by_cases hf : Rg.free U L = []
            · rw [decide_eq_true hf, if_neg (by decide)]
              omega
            · rw [decide_eq_false hf, if_pos (show (!false) = true from rfl)]
              have := List.length_pos_iff.mpr hf
              omega
          · exact s1.free (s2.free nD2)
          · intro hb
            have hf : Rg.free U L = [] := by
              cases hd : decide (Rg.free U L = []) with
              | true => exact of_decide_eq_true hd
              | false => rw [hd] at hb; cases hb
            exact Rg.sift_done Ls Lnd Lb hf
end
end Rs
/-! walks: Ring.__init__, look_for_rings -/
namespace Rs
open PySem PySem.Spec PyProof.Rows L2
/-! ### places in lists -/
theorem first_at {l : List Str} {x : Str} (h : x ∈ l) : ∃ j : Nat, l[j]? = some x ∧ ∀ m : Nat, m < j → l[m]? ≠ some x := by
  induction l with
  | nil => cases h
  | cons y r ih =>
    by_cases e : y = x
    · exact ⟨0, by rw [e]; rfl, fun m hm => absurd hm (Nat.not_lt_zero _)⟩
    · have h2 : x ∈ r := by
        rcases List.mem_cons.mp h with q | q
        · exact absurd q.symm e
        · exact q
      obtain ⟨j, h3, h4⟩ := ih h2
      refine ⟨j + 1, h3, fun m hm => ?_⟩
      cases m with
      | zero => exact fun z => e (Option.some.inj z)
      | succ m => exact h4 m (by omega)
theorem cut_from (xs : List V) {j : Nat} (h : j ≤ xs.length) : cutV xs (some (j : Int)) none = xs.drop j := by
  unfold cutV
  rw [HT.sIx_nat, HT.sIx_none, Nat.min_eq_left h]
  exact List.take_of_length_le (by rw [List.length_drop]; exact Nat.le_refl _)
theorem cut_to (xs : List V) {j : Nat} (h : j ≤ xs.length) : cutV xs none (some (j : Int)) = xs.take j := by
  unfold cutV
  rw [HT.sIx_nat, HT.sIx_none, Nat.min_eq_left h]
  rfl
theorem at_last {xs : List V} {v : V} (h : xs[xs.length - 1]? = some v) : atI xs (-1) = some v := by
  have hlt := (List.getElem?_eq_some_iff.mp h).1
  unfold atI ixN
  rw [if_neg (by decide), if_pos (by omega)]
  show xs[(-1 + (xs.length : Int)).toNat]? = some v
  rw [show (-1 + (xs.length : Int)).toNat = xs.length - 1 by omega]
  exact h
theorem idx_no {ys : List Str} {x : Str} {j : Nat} (h : ∀ m : Nat, m < j → ys[m]? ≠ some x) : ∀ (m : Nat) (z : V), m < j → (ys.map V.str)[m]? = some z → eqV z (V.str x) = false := fun m z hm hz => by
  obtain ⟨y, hy, rfl⟩ := mapS_at hz
  show (y == x) = false
  exact beq_eq_false_iff_ne.mpr fun e => h m hm (e ▸ hy)
/-- Ring's __init__ -/
def spRing (K : PySem.W.Frag) (C : Addr) : Sp := fun vs H Q _ => ∃ (a r : Addr) (xs : List V), vs = [.ref a, .ref r] ∧ H a = some (exo a C none) ∧ SqL K H r xs ∧
  ∀ (l d : Addr) H', H l = none → H d = none → l ≠ d → H' a = some (exo a C (some d)) → H' d = some (exd d [("ring", .ref l)]) → H' l = some (.lst xs) → (∀ b o, b ≠ a → H b = some o → H' b = some o) → Q .non H'
/-- what of the text Ring must have -/
structure RgT (K : PySem.W.Frag) (mg : Str → Option Value) (C fI : Addr) : Prop where
  oex : OexC K C
  no : PySem.W.findIn K (.ref C) "ring" = some none
  iC : PySem.W.findIn K (.ref C) "__init__" = some (some (.ref fI))
  tI : PySem.W.typeIn K (.ref fI) = some (.type "function")
  mg : mg "Ring" = some (.ref C)
/-- a ring, or none -/
def spFor (C : Addr) : Sp := fun vs H Q E => ∃ (d : Addr) (ws : List Str) (A : Str → Addr) (U : Str → List Str), vs = [.ref d] ∧ Tab H d ws A U ∧ Wb ws U ∧
  (∀ H', Rg.Left ws U [] → Same H H' → Q .non H') ∧
  ∀ (r L : List Str) (dd l : Addr) H', Rg.Ringed ws U r → Rg.Left ws U L → L ≠ [] → Same H H' → H' dd = some (.xd [("ring", .ref l)]) → H' l = some (.lst (r.map V.str)) → E (.ref C) (some dd) H'
section
variable {P : Program} {w : World} {K : PySem.W.Frag} {mg : Str → Option Value} {base : Heap}
theorem ok_ring {f C CF : Addr} {fd : FuncData} (F : Fun K "__init__" "Ring.__init__" sRing f fd) (T : RgT K mg C f) (B : FitB K CF) (mF : mg "FitError" = some (.ref CF)) (mi : mg "list" = none) : FnOk P w K mg base CX0 1 f fd ["self", "ring"] (spRing K C) := by
  refine F.ok scRing (fun vs H Q E h => ?_) (fun cdv A outer s H vs Q E hr h => ?_)
  · obtain ⟨a, r, xs, rfl, _⟩ := h
    rfl
  · obtain ⟨a, r, xs, rfl, ha, hS, q⟩ := h
    refine ⟨_, pss_cons (ps_expr (pe_binit (by rfl) mF B (pa_cons (pv 0) (pa_cons pe_str pa_nil)))) (pss_one (ps_ost (pv 0) (pe_callTy call_list_of (by rfl) mi (by decide +kernel) (pa_cons (pv 1) pa_nil)))), ?_⟩
    refine ⟨_, rfl, a, C, _, rfl, (by show 1 ≤ 1000; decide), T.oex, ha, ?_⟩
    refine ⟨_, rfl, r, xs, rfl, .inl hS, fun l nl => ?_⟩
    have nla : l ≠ a := fun e => by rw [e, ha] at nl; cases nl
    refine ⟨_, rfl, a, C, rfl, T.oex, T.no, .inl ⟨by rw [upd_ne nla.symm]; exact ha, fun d nd nda => ?_⟩⟩
    have ndl : d ≠ l := fun e => by rw [e, upd_same] at nd; cases nd
    refine q l d _ nl (by rw [upd_ne ndl] at nd; exact nd) ndl.symm upd_same (by rw [upd_ne nda, upd_same]) (by rw [upd_ne nla, upd_ne ndl.symm, upd_same]) fun b o hb e => ?_
    have nbl : b ≠ l := ne_of_none e nl
    have nbd : b ≠ d := fun z => by
      rw [z] at e
      rw [upd_ne ndl, e] at nd
      cases nd
    rw [upd_ne hb, upd_ne nbd, upd_ne nbl]
    exact e
abbrev nFR : List Str := ["uppers", "left", "way", "onward", "one"]
theorem ok_for {f C fI fR : Addr} {fd fdI fdR : FuncData} (F : Fun K "look_for_rings" "look_for_rings" sFor f fd) (CI : Cal K mg "in_rings" fI fdI ["uppers"]) (GI : FnOk P w K mg base CX0 1 fI fdI ["uppers"] spInRings)
    (T : RgT K mg C fR) (GR : FnOk P w K mg base CX0 1 fR fdR ["self", "ring"] (spRing K C)) (bR : L2.Binds K fdR ["self", "ring"] []) : FnOk P w K mg base (L2N.CX P w) 3 f fd ["uppers"] (spFor C) := by
  refine okN F scFor (fun vs H Q E h => ?_) (fun cdv A0 outer s H vs Q E hr h => ?_)
  · obtain ⟨d, ws, A, U, rfl, _⟩ := h
    rfl
  · obtain ⟨d, ws, A, U, rfl, tb, W, qn, qe⟩ := h
    have hu := hu_of hr
    have hr1 : Room 1 _ := hr.mono (by decide)
    have tk := L2N.takes_of (X := cxOf (L2N.CX P w) P w K mg base nFR "look_for_rings" (defScope sFor) f cdv A0 outer s H E) (E := E) rfl rfl rfl rfl
    refine ⟨_, pss_cons (ps_set (i := 1) scFor.nd rfl (.inr rfl) (pe_call GI hr1 (by rfl) CI.mgf CI.kp CI.b .nil pass0 (pa_cons (pv 0) pa_nil)))
      (pss_cons (ps_if (pt_cmpR (op_eqD hr.units) (pv 1) (pe_lst pa_nil) (nomark _)) (pss_one ps_retN) pss_nil)
      (pss_cons (ps_set (i := 2) scFor.nd rfl (.inl rfl) (pe_slice sl_list (pv 1) po_none (po_some pe_int)))
      (pss_one (ps_while (L2.passes_of rfl) (pt_val pe_bl)
        (pss_cons (ps_set (i := 3) scFor.nd rfl (.inl rfl) (pe_ix ix_list
          (pe_lc (own := [("one", 4)]) (g := gName 4) (tt := tTest (tOp (rIn K false) (tVar 4) (tVar 1))) (te := tVar 4) rfl scFor.nd (pi_list (pe_dget hu (pv 0) (pe_ix ix_list (pv 2) (pe_un un_neg pe_int) (fun _ _ => rfl)) (fun _ _ => rfl))) (blkOk_by (N := nFR) (sc := defScope sFor) (by decide +kernel))
            (fun _ _ _ _ _ => pg_name (i := 4) scFor.nd rfl (Or.inl rfl)) (fun _ _ _ _ _ => pts_one (pt_cmpR op_in_seq (pv 4) (pv 1) rfl)) (fun _ _ _ _ _ => pv 4)) pe_int (fun _ _ => rfl)))
        (pss_cons (ps_if (pt_cmpR op_in_seq (pv 3) (pv 2) rfl)
          (pss_one (L2N.ps_raise rfl tk (pmk_oexN T.oex T.iC T.tI GR hr bR .nil pass0 (by rfl) T.mg (pa_cons (pe_slice sl_list (pv 2) (po_some (pe_bm PySem.F.plainAttrs_list PySem.F.slot_list_index PySem.F.type_list_index mt_index (pv 2) (pa_cons (pv 3) pa_nil))) po_none) pa_nil)))) pss_nil)
        (pss_one (ps_expr (pe_bm PySem.F.plainAttrs_list PySem.F.slot_list_append PySem.F.type_list_append mt_append (pv 2) (pa_cons (pv 3) pa_nil)))))))))), ?_⟩
    -- left = in_rings(uppers)
    refine ⟨_, rfl, d, ws, A, U, rfl, tb, W, fun L pl H1 hL s1 npl epl => ?_⟩
    have wl := W.len
    have Ll := Rg.len_le L ws hL.nd hL.sub
    -- if left == []
    refine ⟨_, rfl, Nat.zero_le _, fun t nt => ?_⟩
    have st : Same H1 (upd H1 t (.lst [])) := same_upd nt
    refine ⟨.list (L.map PyData.str), .list [], .lst (SqL.of (st _ _ epl)) (dp_strs _), .lst (SqL.of upd_same) .nil, shaped_strs (fun y hy => W.nm y (hL.sub y hy)), rfl, _, rfl, ?_⟩
    rw [eqv_nil]
    by_cases hn : L = []
    · rw [decide_eq_true hn]
      refine iteT ?_
      rw [hn] at hL
      exact qn _ hL (s1.trans st)
    · rw [decide_eq_false hn]
      refine iteF ?_
      have s2 := s1.trans st
      have epl2 := st _ _ epl
      generalize upd H1 t (.lst []) = H2 at s2 epl2
      -- way = left[:1]
      obtain ⟨x0, L', eL⟩ : ∃ x0 L', L = x0 :: L' := by
        cases L with
        | nil => exact absurd rfl hn
        | cons x0 L' => exact ⟨x0, L', rfl⟩
      have hx0 : x0 ∈ L := by rw [eL]; exact List.mem_cons_self ..
      refine ⟨_, rfl, 1, rfl, pl, _, rfl, SqL.of epl2, fun p np => ?_⟩
      rw [show cutV (L.map V.str) none (some 1) = [V.str x0] by
        rw [show (1 : Int) = ((1 : Nat) : Int) from rfl, cut_to _ (by rw [eL]; simp), eL]
        rfl]
      have npl2 : pl ≠ p := ne_of_none epl2 np
      have np0 : H p = none := s2.free np
      refine ⟨fun m σ H3 => ∃ (way : List Str) (y3 : Option V), σ = [some (.ref d), some (.ref pl), some (.ref p), y3, none] ∧ Same H H3 ∧ H3 pl = some (.lst (L.map V.str)) ∧ H3 p = some (.lst (way.map V.str)) ∧ Rg.Way U L way ∧ m = L.length + 1 - way.length,
        ⟨_, [x0], none, rfl, sPut s2 np, by rw [upd_ne npl2]; exact epl2, upd_same, Rg.Way.start hx0, rfl⟩, ?_⟩
      rintro m σ H3 ⟨way, y3, rfl, s3, ep3, ew, hw, em⟩
      have wlen := hw.len
      refine ⟨true, rfl, ?_⟩
      refine iteT ?_
      have wpos : 0 < way.length := List.length_pos_iff.mpr hw.ne
      obtain ⟨x, hx⟩ : ∃ x, way[way.length - 1]? = some x := ⟨_, List.getElem?_eq_getElem (by omega)⟩
      have hxL : x ∈ L := hw.sub x (List.mem_of_getElem? hx)
      have hxw : x ∈ ws := hL.sub x hxL
      have tb3 := tb.same s3
      refine ⟨fun σ' H' => ∃ m', m' < m ∧ ∃ (way : List Str) (y3 : Option V), σ' = [some (.ref d), some (.ref pl), some (.ref p), y3, none] ∧ Same H H' ∧ H' pl = some (.lst (L.map V.str)) ∧ H' p = some (.lst (way.map V.str)) ∧ Rg.Way U L way ∧ m' = L.length + 1 - way.length, fun σ' H' h => h, ?_⟩
      -- onward
      refine ⟨_, rfl, _, rfl, 1, rfl, p, _, _, _, rfl, rfl, SqL.of ew, at_last (by rw [List.length_map]; exact mapS_get hx), d, _, rfl, tb3.get hxw, A x, rfl, ⟨_, SqL.of (tb3.ls x hxw)⟩, fun D nD => ?_⟩
      have ul := W.ul x hxw
      refine lc_S (K := K) (a := A x) (ys := U x) (fun y => V.str y) (fun y => decide (y ∈ L)) nD (SqL.of (tb3.ls x hxw)) (by omega) (fun y H4 N M hy s4 hT hF => ?_) (fun H4 s4 e4 => ?_)
      · refine ⟨rfl, _, rfl, _, rfl, pl, _, rfl, .inl (SqL.of (s4 _ _ ep3)), rfl, flatS L, _, rfl, ?_⟩
        rw [if_neg Bool.false_ne_true, inS]
        cases hc : decide (y ∈ L) with
        | true => exact iteT ⟨_, rfl, hT hc H4 (Same.refl _)⟩
        | false => exact iteF (hF hc H4 (Same.refl _))
      · obtain ⟨u0, hu0, hu0L⟩ := hL.sup x hxL
        have hmem : u0 ∈ (U x).filter fun y => decide (y ∈ L) := List.mem_filter.mpr ⟨hu0, decide_eq_true hu0L⟩
        obtain ⟨y, hy⟩ : ∃ y, ((U x).filter fun y => decide (y ∈ L))[0]? = some y := ⟨_, List.getElem?_eq_getElem (List.length_pos_of_mem hmem)⟩
        have hy2 := List.mem_filter.mp (List.mem_of_getElem? hy)
        have hyU : y ∈ U x := hy2.1
        have hyL : y ∈ L := of_decide_eq_true hy2.2
        refine ⟨D, _, 0, _, rfl, rfl, SqL.of e4, atI_nat (j := 0) (mapS_get hy), ?_⟩
        have ew4 := s4 _ _ ew
        have s34 := s3.trans s4
        -- if onward in way
        refine ⟨_, rfl, _, rfl, p, _, rfl, .inl (SqL.of ew4), rfl, flatS way, _, rfl, ?_⟩
        rw [if_neg Bool.false_ne_true, inS]
        by_cases hin : y ∈ way
        · rw [decide_eq_true hin]
          refine iteT ?_
          obtain ⟨j, hj, hjn⟩ := first_at hin
          have jl := (List.getElem?_eq_some_iff.mp hj).1
          -- raise Ring(way[way.index(onward):])
          refine ⟨_, rfl, _, rfl, .inl ⟨rfl, _, SqL.of ew4⟩, _, rfl, p, _, _, j, _, rfl, rfl, SqL.of ew4, rfl, flatS way, mapS_get hj, beq_self_eq_true y, idx_no hjn, (j : Int), rfl, p, _, rfl, SqL.of ew4, fun rr nrr => ?_⟩
          rw [cut_from _ (by rw [List.length_map]; omega)]
          have sr : Same H4 (upd H4 rr (.lst ((way.map V.str).drop j))) := same_upd nrr
          refine ⟨(by show 1 ≤ 1000; decide), fun a na => ?_⟩
          have sa : Same (upd H4 rr (.lst ((way.map V.str).drop j))) (upd (upd H4 rr (.lst ((way.map V.str).drop j))) a (exo a C none)) := same_upd na
          refine ⟨a, rr, _, rfl, upd_same, SqL.of (sa _ _ upd_same), fun l dd H5 nl nd nld h5a h5d h5l k5 => ⟨rfl, dd, _, h5a, h5d, ?_, ?_⟩⟩
          · cases e : (upd H4 rr (.lst ((way.map V.str).drop j))) dd with
            | none => rfl
            | some o => rw [sa _ _ e] at nd; cases nd
          · have hring := hw.ring hL.sub hx hyU hj
            have nla : l ≠ a := fun z => by rw [z, upd_same] at nl; cases nl
            refine qe _ L dd l _ hring hL hn (fun b o e => ?_) upd_same ?_
            · have e5 := sa _ _ (sr _ _ (s34 _ _ e))
              have nbd : b ≠ dd := ne_of_none e5 nd
              have nba : b ≠ a := ne_of_none (sr _ _ (s34 _ _ e)) na
              rw [upd_ne nbd, del_ne nba]
              exact k5 b o nba e5
            · rw [upd_ne nld, del_ne nla, h5l, List.map_drop]
        · rw [decide_eq_false hin]
          refine iteF ?_
          -- way.append(onward)
          refine ⟨_, rfl, .inl ⟨rfl, _, SqL.of ew4⟩, _, rfl, p, _, _, rfl, rfl, ew4, ?_, ?_⟩
          · rw [List.length_map]
            exact small1000 (by omega)
          · have hmore := hw.more hx hyU hyL hin
            have ml := hmore.len
            rw [List.length_append] at ml
            simp at ml
            refine ⟨L.length + 1 - (way ++ [y]).length, ?_, way ++ [y], _, rfl, sRe s34 np0, ?_, ?_, hmore, rfl⟩
            · rw [em, List.length_append]
              simp
              omega
            · rw [upd_ne npl2]
              exact s4 _ _ ep3
            · rw [upd_same, List.map_append]
              rfl
end
end Rs
/-! walks: Web.__init__, names, over -/
namespace Rs
open PySem PySem.Spec PyProof.Rows L2
theorem But.put {p q : Addr} {H H1 : Hp} {o : HO} (s : But p H H1) (h : H q = none) : But p H (upd H1 q o) := fun b x n e => by
  rw [upd_ne (ne_of_none e h)]
  exact s b x n e
theorem But.at {p b : Addr} {H H' : Hp} {o o0 : HO} (s : But p H H') (hp : H p = some o0) (e : H b = some o) (hne : o ≠ o0) : H' b = some o :=
  s b o (fun z => hne (by rw [z, hp] at e; exact (Option.some.inj e).symm)) e
theorem But.ne {p b : Addr} {H : Hp} {o o0 : HO} (hp : H p = some o0) (e : H b = some o) (hne : o ≠ o0) : b ≠ p := fun z => hne (by rw [z, hp] at e; exact (Option.some.inj e).symm)
/-- one more name in the table -/
theorem Tab.snoc {H : Hp} {d p : Addr} {vs us : List Str} {A : Str → Addr} {U : Str → List Str} {x : Str} (t : Tab H d vs A U) (nx : x ∉ vs) (hp : H p = some (.lst (us.map V.str))) :
    Tab (upd H d (.dK (putK (tabK vs A) (Sum.inr x) (.ref p)))) d (vs ++ [x]) (fun y => if y = x then p else A y) (fun y => if y = x then us else U y) := by
  have hl : ∀ (b : Addr) (ys : List V), H b = some (.lst ys) → b ≠ d := fun b ys e => But.ne t.dc e (fun z => by cases z)
  refine ⟨?_, fun y hy => ?_⟩
  · rw [upd_same]
    have e1 : tabK vs A = tabK vs (fun y => if y = x then p else A y) := tabK_congr fun y hy => (if_neg fun z : y = x => nx (z ▸ hy)).symm
    have e2 := tabK_put (A := fun y => if y = x then p else A y) nx
    rw [if_pos rfl] at e2
    rw [e1, e2]
  · show upd H d _ (if y = x then p else A y) = some (.lst ((if y = x then us else U y).map V.str))
    by_cases e : y = x
    · rw [if_pos e, if_pos e, upd_ne (hl _ _ hp)]
      exact hp
    · rw [if_neg e, if_neg e]
      have hm : y ∈ vs := by
        rcases List.mem_append.mp hy with h | h
        · exact h
        · exact absurd (List.mem_singleton.mp h) e
      rw [upd_ne (hl _ _ (t.ls y hm))]
      exact t.ls y hm
/-- the list of tuples, tracked -/
structure TpsT (H : Hp) (l : Addr) (ws : List Str) (T B : Str → Addr) (U : Str → List Str) : Prop where
  sq : H l = some (.lst (ws.map fun x => V.ref (T x)))
  tp : ∀ x ∈ ws, H (T x) = some (.tup [.str x, .ref (B x)])
  ls : ∀ x ∈ ws, H (B x) = some (.lst ((U x).map V.str))
theorem TpsT.same {H H' : Hp} {l : Addr} {ws : List Str} {T B : Str → Addr} {U : Str → List Str} (t : TpsT H l ws T B U) (s : Same H H') : TpsT H' l ws T B U :=
  ⟨s _ _ t.sq, fun x hx => s _ _ (t.tp x hx), fun x hx => s _ _ (t.ls x hx)⟩
theorem TpsT.to {K : PySem.W.Frag} {H : Hp} {l : Addr} {ws : List Str} {T B : Str → Addr} {U : Str → List Str} (t : TpsT H l ws T B U) : Tps K H l ws T B U := ⟨SqL.of t.sq, t.tp, t.ls⟩
theorem TpsT.but {H H' : Hp} {l x C dx : Addr} {fs : List (Str × V)} {ws : List Str} {T B : Str → Addr} {U : Str → List Str} (t : TpsT H l ws T B U) (hx : H x = some (.ins C dx fs)) (s : But x H H') : TpsT H' l ws T B U :=
  ⟨s.at hx t.sq (fun z => by cases z), fun y hy => s.at hx (t.tp y hy) (fun z => by cases z), fun y hy => s.at hx (t.ls y hy) (fun z => by cases z)⟩
/-- a web, or a ring -/
def spWeb (CW CR : Addr) : Sp := fun vs H Q E => ∃ (x dx l : Addr) (ws : List Str) (T B : Str → Addr) (U : Str → List Str), vs = [.ref x, .ref l] ∧ H x = some (.ins CW dx []) ∧ TpsT H l ws T B U ∧ Wb ws U ∧
  (∀ (d : Addr) (A : Str → Addr) (U' : Str → List Str) H', H' x = some (.ins CW dx [("uppers", .ref d)]) → Tab H' d ws A U' → Wb ws U' → (∀ y ∈ ws, ∀ u, u ∈ U' y ↔ u ∈ U y) → Rg.Left ws U' [] → But x H H' → Q .non H') ∧
  ∀ (r L : List Str) (dd l' : Addr) H', Rg.Ringed ws U r → Rg.Left ws U L → L ≠ [] → But x H H' → H' dd = some (.xd [("ring", .ref l')]) → H' l' = some (.lst (r.map V.str)) → E (.ref CR) (some dd) H'
def spWNames (CW : Addr) : Sp := fun vs H Q _ => ∃ (x dx d : Addr) (ws : List Str) (A : Str → Addr) (U : Str → List Str), vs = [.ref x] ∧ H x = some (.ins CW dx [("uppers", .ref d)]) ∧ Tab H d ws A U ∧
  ∀ (p : Addr) H', Same H H' → H p = none → H' p = some (.lst (ws.map V.str)) → Q (.ref p) H'
def spWOver (CW : Addr) : Sp := fun vs H Q _ => ∃ (x dx d : Addr) (ws : List Str) (A : Str → Addr) (U : Str → List Str) (y : Str), vs = [.ref x, .str y] ∧ H x = some (.ins CW dx [("uppers", .ref d)]) ∧ Tab H d ws A U ∧ y ∈ ws ∧
  ∀ (p : Addr) H', Same H H' → H p = none → H' p = some (.lst ((U y).map V.str)) → Q (.ref p) H'
section
variable {P : Program} {w : World} {K : PySem.W.Frag} {mg : Str → Option Value} {base : Heap}
theorem ok_wnames {f CW : Addr} {fd : FuncData} (F : Fun K "names" "Web.names" sNames f fd) (c : Cls K CW) (nU : NoAttr K CW "uppers") (mi : mg "list" = none) : FnOk P w K mg base CX0 1 f fd ["self"] (spWNames CW) := by
  refine F.ok scNames (fun vs H Q E h => ?_) (fun cdv A0 outer s H vs Q E hr h => ?_)
  · obtain ⟨x, dx, d, ws, A, U, rfl, _⟩ := h
    rfl
  · obtain ⟨x, dx, d, ws, A, U, rfl, hx, tb, q⟩ := h
    refine ⟨_, pss_one (ps_ret (pe_callTy (call_list_dK rfl) (by rfl) mi (by decide +kernel) (pa_cons (pe_fld (pv 0) rfl) pa_nil))), ?_⟩
    refine ⟨_, rfl, x, CW, dx, _, .ref d, rfl, hx, c, nU, rfl, d, _, rfl, tb.dc, fun p np => ?_⟩
    rw [tabK_keys]
    exact q p _ (same_upd np) np upd_same
theorem ok_wover {f CW : Addr} {fd : FuncData} (F : Fun K "over" "Web.over" sOver f fd) (c : Cls K CW) (nU : NoAttr K CW "uppers") (mi : mg "list" = none) : FnOk P w K mg base CX0 1 f fd ["self", "name"] (spWOver CW) := by
  refine F.ok scOver (fun vs H Q E h => ?_) (fun cdv A0 outer s H vs Q E hr h => ?_)
  · obtain ⟨x, dx, d, ws, A, U, y, rfl, _⟩ := h
    rfl
  · obtain ⟨x, dx, d, ws, A, U, y, rfl, hx, tb, hy, q⟩ := h
    have hu := hu_of hr
    refine ⟨_, pss_one (ps_ret (pe_callTy call_list_of (by rfl) mi (by decide +kernel) (pa_cons (pe_dget hu (pe_fld (pv 0) rfl) (pv 1) (fun _ _ => rfl)) pa_nil))), ?_⟩
    refine ⟨_, rfl, x, CW, dx, _, .ref d, rfl, hx, c, nU, rfl, _, rfl, d, _, rfl, tb.get hy, A y, _, rfl, .inl (SqL.of (tb.ls y hy)), fun p np => ?_⟩
    exact q p _ (same_upd np) np upd_same
theorem ok_web {f CW CR fL fF : Addr} {fd fdL fdF : FuncData} (F : Fun K "__init__" "Web.__init__" sWeb f fd) (c : Cls K CW) (nU : NoAttr K CW "uppers")
    (CL : Cal K mg "look_at_names" fL fdL ["tuples"]) (GL : FnOk P w K mg base CX0 2 fL fdL ["tuples"] (spLook K)) (CF : Cal K mg "look_for_rings" fF fdF ["uppers"]) (GF : FnOk P w K mg base (L2N.CX P w) 3 fF fdF ["uppers"] (spFor CR))
    (ms : mg "sorted" = none) (me : mg "set" = none) : FnOk P w K mg base (L2N.CX P w) 4 f fd ["self", "tuples"] (spWeb CW CR) := by
  refine okN F scWeb (fun vs H Q E h => ?_) (fun cdv A0 outer s H vs Q E hr h => ?_)
  · obtain ⟨x, dx, l, ws, T, B, U, rfl, _⟩ := h
    rfl
  · obtain ⟨x, dx, l, ws, T, B, U, rfl, hx, tp, W, qn, qe⟩ := h
    have hu := hu_of hr
    have hr2 : Room 2 _ := hr.mono (by decide)
    have tk := L2N.takes_of (X := cxOf (L2N.CX P w) P w K mg base ["self", "tuples", "name", "over"] "Web.__init__" (defScope sWeb) f cdv A0 outer s H E) (E := E) rfl rfl rfl rfl
    refine ⟨_, pss_cons (ps_expr (pe_call GL hr2 (by rfl) CL.mgf CL.kp CL.b .nil pass0 (pa_cons (pv 1) pa_nil)))
      (pss_cons (ps_fld (pv 0) pe_dnewK rfl)
      (pss_cons (ps_for (L2.passes_of rfl) rfl (pi_list (pv 1)) (pg_tup rfl (pgs_cons (pg_name (i := 2) scWeb.nd rfl (.inl rfl)) (pgs_cons (pg_name (i := 3) scWeb.nd rfl (.inl rfl)) pgs_nil)))
        (pss_one (ps_dput hu (pe_fld (pv 0) rfl) (pv 2) (pe_srtS rfl (by rfl) ms (by rfl) me (pv 3)) rfl)))
      (pss_one (ps_expr (pe_call GF hr (by rfl) CF.mgf CF.kp CF.b .nil (L2N.passes_call tk (fun _ _ _ _ h => h)) (pa_cons (pe_fld (pv 0) rfl) pa_nil)))))), ?_⟩
    have wl := W.len
    -- look_at_names(tuples)
    refine ⟨_, rfl, l, ws, T, B, U, rfl, tp.to, W, fun H1 s1 => ?_⟩
    have hx1 := s1 _ _ hx
    -- self.uppers = {}
    intro d nd
    have nxd : x ≠ d := ne_of_none hx1 nd
    refine ⟨_, rfl, x, CW, dx, [], rfl, by rw [upd_ne nxd]; exact hx1, c, nU, (by decide), ?_⟩
    have nd0 : H d = none := s1.free nd
    have tp0 : ∀ H', But x H H' → TpsT H' l ws T B U := fun H' b => tp.but hx b
    have b1 : But x H (upd (upd H1 d (.dK [])) x (.ins CW dx (putF "uppers" (.ref d) []))) := ((But.of s1).put nd0).trans But.re
    refine ⟨_, rfl, l, rfl, ⟨_, SqL.of (tp0 _ b1).sq⟩, for_list (K := K) (a := l) (xs := ws.map fun x => V.ref (T x))
      (fun i σ H2 => ∃ (A : Str → Addr) (U' : Str → List Str) (y2 y3 : Option V), σ = [some (.ref x), some (.ref l), y2, y3] ∧ But x H H2 ∧ H2 x = some (.ins CW dx [("uppers", .ref d)]) ∧ Tab H2 d (ws.take i) A U' ∧
        ∀ y ∈ ws.take i, (U' y).length ≤ (U y).length ∧ ∀ u, u ∈ U' y ↔ u ∈ U y)
      ⟨fun _ => 0, fun _ => [], none, none, rfl, b1, upd_same, ⟨by rw [upd_ne nxd.symm, upd_same]; rfl, fun y hy => (by cases hy)⟩, fun y hy => (by cases hy)⟩ (fun i σ H2 _ ⟨_, _, _, _, _, b2, _⟩ => SqL.of (tp0 _ b2).sq) ?_ ?_⟩
    · rintro i v σ H2 hv ⟨A, U', y2, y3, rfl, b2, hx2, tb2, hU⟩
      obtain ⟨y, hy, rfl⟩ := mapT_at hv
      have hm : y ∈ ws := List.mem_of_getElem? hy
      have tp2 := tp0 _ b2
      have ul := W.ul y hm
      have et : ws.take (i + 1) = ws.take i ++ [y] := by rw [List.take_add_one, hy]; rfl
      have nin : y ∉ ws.take i := by
        have hnd : (ws.take (i + 1)).Nodup := (List.take_sublist _ _).nodup W.nd
        rw [et, List.nodup_append] at hnd
        exact fun h => hnd.2.2 y h y (by simp) rfl
      refine ⟨T y, [.str y, .ref (B y)], rfl, SqT.of (tp2.tp y hm), rfl, .str y, [.ref (B y)], rfl, .ref (B y), [], rfl, rfl, ?_⟩
      -- self.uppers[name] = sorted(set(over))
      refine ⟨_, rfl, B y, U y, rfl, SqL.of (tp2.ls y hm), by omega, fun ys p hys hlen np => ?_⟩
      have s3 : Same H2 (upd H2 p (.lst (ys.map V.str))) := same_upd np
      have np0 : H p = none := by
        cases e : H p with
        | none => rfl
        | some o =>
          by_cases z : p = x
          · rw [z, hx2] at np
            cases np
          · rw [b2 p o z e] at np
            cases np
      have tb3 := tb2.same s3
      have hx3 := s3 _ _ hx2
      refine ⟨_, rfl, x, CW, dx, _, .ref d, rfl, hx3, c, nU, rfl, _, rfl, d, _, rfl, DPut.k (k := (Sum.inr y : Key)) tb3.dc ?_, ?_⟩
      · rw [tabK_len, List.length_take]
        exact small1000 (by omega)
      · have nxd' : x ≠ d := nxd
        refine ⟨fun z => if z = y then p else A z, fun z => if z = y then ys else U' z, _, _, rfl, (b2.put np0).put nd0, by rw [upd_ne nxd']; exact hx3, ?_, ?_⟩
        · rw [et]
          exact tb3.snoc nin upd_same
        · intro z hz
          rw [et] at hz
          show (if z = y then ys else U' z).length ≤ (U z).length ∧ ∀ u, u ∈ (if z = y then ys else U' z) ↔ u ∈ U z
          by_cases e : z = y
          · rw [if_pos e, e]
            exact ⟨hlen, hys⟩
          · rw [if_neg e]
            rcases List.mem_append.mp hz with h | h
            · exact hU z h
            · exact absurd (List.mem_singleton.mp h) e
    · rintro σ H2 ⟨A, U', y2, y3, rfl, b2, hx2, tb2, hU⟩
      rw [List.length_map, List.take_length] at tb2 hU
      have W' : Wb ws U' := ⟨W.nd, W.len, W.nm, fun y hy => Nat.le_trans (hU y hy).1 (W.ul y hy), fun y hy u hu => W.us y hy u (((hU y hy).2 u).1 hu)⟩
      have hiff : ∀ y ∈ ws, ∀ u, u ∈ U' y ↔ u ∈ U y := fun y hy => (hU y hy).2
      -- look_for_rings(self.uppers)
      refine ⟨_, rfl, x, CW, dx, _, .ref d, rfl, hx2, c, nU, rfl, d, ws, A, U', rfl, tb2, W', fun H3 hL s3 => ?_, fun r L dd l' H3 hR hL hn s3 hdd hl' => ?_⟩
      · exact qn d A U' H3 (s3 _ _ hx2) (tb2.same s3) W' hiff hL (b2.trans (But.of s3))
      · exact qe r L dd l' H3 (hR.congr fun y hy u h => (hiff y hy u).1 h) (hL.congr fun y hy u => hiff y hy u) hn (b2.trans (But.of s3)) hdd hl'
end
end Rs
/-! walk: _law_left -/
namespace Rs
open PySem PySem.Spec PyProof.Rows L2
section
variable {P : Program} {w : World} {K : PySem.W.Frag} {mg : Str → Option Value} {base : Heap}
abbrev nLE : List Str := ["_law_overs_here", "_law_left_here", "_law_k", "_law_name", "_law_one"]
theorem ok_left {f : Addr} {fd : FuncData} (F : Fun K "_law_left" "_law_left" sLeft f fd) (md : mg "dict" = none) (mi : mg "list" = none) (mr : mg "range" = none) (ml : mg "len" = none) : FnOk P w K mg base CX0 1 f fd ["_law_overs_here"] spInRings := by
  refine F.ok scLeft (fun vs H Q E h => ?_) (fun cdv A0 outer s H vs Q E hr h => ?_)
  · obtain ⟨d, ws, A, U, rfl, _⟩ := h
    rfl
  · obtain ⟨d, ws, A, U, rfl, tb, W, q⟩ := h
    have hu := hu_of hr
    refine ⟨_, pss_cons (ps_set (i := 1) scLeft.nd rfl (.inr rfl) (pe_callTy call_dictD (by rfl) md (by decide +kernel) (pa_cons (pv 0) pa_nil)))
      (pss_cons (ps_for PassesOwn.never rfl (pi_range1 (by rfl) mr (pa_cons (pe_callB call_lenD (by rfl) ml PySem.boot_len (pa_cons (pv 0) pa_nil)) pa_nil)) (pg_name (i := 2) scLeft.nd rfl (.inl rfl))
        (pss_one (ps_for PassesOwn.never rfl (pi_list (pe_callTy (call_list_dK rfl) (by rfl) mi (by decide +kernel) (pa_cons (pv 1) pa_nil))) (pg_name (i := 3) scLeft.nd rfl (.inl rfl))
          (pss_one (ps_if (pt_cmpR (op_eqD hr.units)
              (pe_lc (own := [("_law_one", 4)]) (g := gName 4) (tt := tB (tDIn (tVar 4) (tVar 1))) (te := tVar 4) rfl scLeft.nd (pi_list (pe_dget hu (pv 0) (pv 3) (fun _ _ => rfl))) (blkOk_by (N := nLE) (sc := defScope sLeft) (by decide +kernel))
                (fun _ _ _ _ _ => pg_name (i := 4) scLeft.nd rfl (Or.inl rfl)) (fun _ _ _ _ _ => pts_one (pt_cmp (pc_din hu (pv 4) (pv 1)) rfl)) (fun _ _ _ _ _ => pv 4))
              (pe_lst pa_nil) (nomark _))
            (pss_one (ps_expr (pe_dpop1 (pv 1) (pv 3) ⟨rfl, rfl, rfl, rfl⟩))) pss_nil)))))
      (pss_one (ps_ret (pe_callTy (call_list_dK rfl) (by rfl) mi (by decide +kernel) (pa_cons (pv 1) pa_nil))))), ?_⟩
    have wl := W.len
    -- left = dict(overs)
    refine ⟨_, rfl, d, _, rfl, Rd.of tb.dc, fun p np => ?_⟩
    have npd : d ≠ p := ne_of_none tb.dc np
    have s0 : Same H (upd H p (.dK (tabK ws A))) := same_upd np
    -- for k in range(len(overs))
    refine ⟨_, rfl, d, _, rfl, s0 _ _ tb.dc, ((tabK ws A).length : Int), rfl, by rw [tabK_len]; omega, by rw [tabK_len]; omega, ?_⟩
    rw [Int.toNat_natCast, tabK_len]
    refine for_range (lo := 0) (n := ws.length) (fun k σ H1 => ∃ (ks : List Str) (y2 y3 : Option V), σ = [some (.ref d), some (.ref p), y2, y3, none] ∧ Same H H1 ∧ H1 p = some (.dK (tabK ks A)) ∧ Rg.Rds ws U k ks)
      ⟨ws, none, none, rfl, s0, upd_same, Rg.Rds.start W.nd⟩ ?_ ?_
    · rintro k σ H1 hk ⟨ks0, y2, y3, rfl, s1, ep1, r0⟩
      have len0 := Rg.len_le ks0 ws r0.nd r0.sub
      -- for name in list(left)
      refine ⟨_, rfl, p, _, rfl, ep1, fun l nl => ?_⟩
      rw [tabK_keys]
      have npl : p ≠ l := ne_of_none ep1 nl
      have sl : Same H1 (upd H1 l (.lst (ks0.map V.str))) := same_upd nl
      refine ⟨l, rfl, ⟨_, SqL.of upd_same⟩, for_list (K := K) (a := l) (xs := ks0.map V.str)
        (fun i σ H2 => ∃ (ks : List Str) (y3 : Option V), σ = [some (.ref d), some (.ref p), some (.int (0 + (k : Int))), y3, none] ∧ Same H H2 ∧ H2 p = some (.dK (tabK ks A)) ∧ H2 l = some (.lst (ks0.map V.str)) ∧ Rg.Rnd ws U ks0 i ks)
        ⟨ks0, y3, rfl, s1.trans sl, sl _ _ ep1, upd_same, r0.rnd⟩ (fun i σ H2 _ ⟨_, _, _, _, _, e2, _⟩ => SqL.of e2) ?_ ?_⟩
      · rintro i v σ H2 hv ⟨ks, y3', rfl, s2, ep2, el2, r2⟩
        obtain ⟨x, hx, rfl⟩ := mapS_at hv
        have hxk : x ∈ ks := r2.here hx
        have hxw : x ∈ ws := r2.sub x hxk
        have tb2 := tb.same s2
        have ul := W.ul x hxw
        -- [one for one in overs[name] if one in left]
        refine ⟨_, rfl, _, rfl, d, _, rfl, tb2.get hxw, A x, rfl, ⟨_, SqL.of (tb2.ls x hxw)⟩, fun D nD => ?_⟩
        refine lc_S (K := K) (a := A x) (ys := U x) (fun y => V.str y) (fun y => decide (y ∈ ks)) nD (SqL.of (tb2.ls x hxw)) (by omega) (fun y H3 N M hy s3 hT hF => ?_) (fun H3 s3 e3 => ?_)
        · obtain ⟨o, go, eo⟩ := key_has (s3 _ _ ep2) y
          refine ⟨rfl, _, rfl, _, rfl, p, o, rfl, go, _, rfl, ?_⟩
          rw [eo]
          cases hc : decide (y ∈ ks) with
          | true => exact iteT ⟨_, rfl, hT hc H3 (Same.refl _)⟩
          | false => exact iteF (hF hc H3 (Same.refl _))
        · -- == []
          have fnm : ∀ y ∈ (U x).filter fun y => decide (y ∈ ks), NmS y := fun y hy => W.nm y (W.us x hxw y (List.mem_filter.mp hy).1)
          refine ⟨Nat.zero_le _, fun t nt => ?_⟩
          have st : Same H3 (upd H3 t (.lst [])) := same_upd nt
          refine ⟨.list (((U x).filter fun y => decide (y ∈ ks)).map PyData.str), .list [], .lst (SqL.of (st _ _ e3)) (dp_strs _), .lst (SqL.of upd_same) .nil, shaped_strs fnm, rfl, _, rfl, ?_⟩
          rw [eqv_nil]
          have s24 := s3.trans st
          by_cases hn : ((U x).filter fun y => decide (y ∈ ks)) = []
          · rw [decide_eq_true hn]
            refine iteT ?_
            have hno : ¬ ∃ u, u ∈ U x ∧ u ∈ ks := fun ⟨u, h1, h2⟩ => by
              have : u ∈ (U x).filter fun y => decide (y ∈ ks) := List.mem_filter.mpr ⟨h1, decide_eq_true h2⟩
              rw [hn] at this
              cases this
            have ep4 := s24 _ _ ep2
            refine ⟨_, rfl, p, rfl, .inl ⟨_, Rd.of ep4⟩, _, rfl, _, (Sum.inr x : Key), _, ep4, rfl, tabK_in hxk, ?_⟩
            rw [tabK_drop]
            exact ⟨_, _, rfl, sRe (s2.trans s24) np, upd_same, by rw [upd_ne npl.symm]; exact s24 _ _ el2, r2.out r0.nd hx hno⟩
          · rw [decide_eq_false hn]
            refine iteF ?_
            obtain ⟨u, hu2⟩ := List.exists_mem_of_ne_nil _ hn
            have hu3 := List.mem_filter.mp hu2
            exact ⟨ks, _, rfl, s2.trans s24, s24 _ _ ep2, s24 _ _ el2, r2.stay hx ⟨u, hu3.1, of_decide_eq_true hu3.2⟩⟩
      · rintro σ H2 ⟨ks, y3', rfl, s2, ep2, el2, r2⟩
        rw [List.length_map] at r2
        exact ⟨ks, _, _, rfl, s2, ep2, Rg.Rnd.rds r0 r2⟩
    · rintro σ H1 ⟨ks, y2, y3, rfl, s1, ep1, r1⟩
      -- return list(left)
      refine ⟨_, rfl, p, _, rfl, ep1, fun l nl => ?_⟩
      rw [tabK_keys]
      exact q ks l _ r1.left (sPut s1 nl) (s1.free nl) upd_same
end
end Rs
/-! walk: _law_placed -/
namespace Rs
open PySem PySem.Spec PyProof.Rows L2
/-- a dict of names, each True -/
def plK (ps : List Str) : List (Key × V) := ps.map fun x => ((Sum.inr x : Key), V.bl true)
theorem plK_has (x : Str) : ∀ ps : List Str, (valV (plK ps) (Sum.inr x)).isSome = decide (x ∈ ps)
  | [] => rfl
  | y :: r => by
    by_cases e : y = x
    · subst e
      rw [show valV (plK (y :: r)) (Sum.inr y) = some (V.bl true) from valV_pos (p := ((Sum.inr y : Key), V.bl true)) rfl]
      simp
    · rw [show valV (plK (y :: r)) (Sum.inr x) = valV (plK r) (Sum.inr x) from valV_neg (p := ((Sum.inr y : Key), V.bl true)) (fun z => e (Sum.inr.inj z)), plK_has x r]
      have e2 : ¬ x = y := fun z => e z.symm
      simp [List.mem_cons, e2]
theorem plK_new {x : Str} {ps : List Str} (h : x ∉ ps) : putK (plK ps) (Sum.inr x) (.bl true) = plK (ps ++ [x]) := by
  have e : valV (plK ps) (Sum.inr x) = none := by
    have := plK_has x ps
    rw [decide_eq_false h] at this
    cases z : valV (plK ps) (Sum.inr x) with
    | none => rfl
    | some v => rw [z] at this; cases this
  rw [putK_new _ e]
  unfold plK
  rw [List.map_append]
  rfl
theorem plK_old {x : Str} {ps : List Str} (h : x ∈ ps) : putK (plK ps) (Sum.inr x) (.bl true) = plK ps := by
  unfold putK
  rw [valV_any, plK_has, decide_eq_true h, if_pos rfl]
  unfold plK
  rw [List.map_map]
  refine List.map_congr_left fun y _ => ?_
  show (if (Sum.inr y : Key) = Sum.inr x then ((Sum.inr y : Key), V.bl true) else ((Sum.inr y : Key), V.bl true)) = _
  rw [ite_self]
theorem plK_len (ps : List Str) : (plK ps).length = ps.length := List.length_map ..
def spPlaced (CW : Addr) : Sp := fun vs H Q _ => ∃ (x dx d o : Addr) (ws : List Str) (A A2 : Str → Addr) (U : Str → List Str), vs = [.ref x, .ref o] ∧ H x = some (.ins CW dx [("uppers", .ref d)]) ∧ Tab H d ws A U ∧ H o = some (.dK (tabK ws A2)) ∧ Wb ws U ∧ Rg.Left ws U [] ∧
  ∀ H', Same H H' → Q (.bl true) H'
section
variable {P : Program} {w : World} {K : PySem.W.Frag} {mg : Str → Option Value} {base : Heap}
abbrev nPL : List Str := ["_law_web", "_law_overs_here", "_law_places", "_law_k", "_law_name", "_law_one"]
theorem ok_placed {f CW fN fO : Addr} {fd fdN fdO : FuncData} (F : Fun K "_law_placed" "_law_placed" sPlaced f fd) (c : Cls K CW) (mN : Meth K CW "names" fN) (GN : FnOk P w K mg base CX0 1 fN fdN ["self"] (spWNames CW)) (bN : L2.Binds K fdN ["self"] [])
    (mO : Meth K CW "over" fO) (GO : FnOk P w K mg base CX0 1 fO fdO ["self", "name"] (spWOver CW)) (bO : L2.Binds K fdO ["self", "name"] []) (mr : mg "range" = none) (ml : mg "len" = none) (ma : mg "all" = none) :
    FnOk P w K mg base CX0 2 f fd ["_law_web", "_law_overs_here"] (spPlaced CW) := by
  refine F.ok scPlaced (fun vs H Q E h => ?_) (fun cdv A0 outer s H vs Q E hr h => ?_)
  · obtain ⟨x, dx, d, o, ws, A, A2, U, rfl, _⟩ := h
    rfl
  · obtain ⟨x, dx, d, o, ws, A, A2, U, rfl, hx, tb, ho, W, hL, q⟩ := h
    have hu := hu_of hr
    refine ⟨_, pss_cons (ps_set (i := 2) scPlaced.nd rfl (.inr rfl) pe_dnewK)
      (pss_cons (ps_for PassesOwn.never rfl (pi_range1 (by rfl) mr (pa_cons (pe_callB call_lenD (by rfl) ml PySem.boot_len (pa_cons (pv 1) pa_nil)) pa_nil)) (pg_name (i := 3) scPlaced.nd rfl (.inl rfl))
        (pss_one (ps_for PassesOwn.never rfl (pi_list (pe_meth0 (pv 0) c mN GN hr bN .nil pass0)) (pg_name (i := 4) scPlaced.nd rfl (.inl rfl))
          (pss_one (ps_if (pt_val (pe_callB (cr_all rfl) (by rfl) ma (by decide +kernel) (pa_cons
              (pe_lc (own := [("_law_one", 5)]) (g := gName 5) (tt := tYes) (te := tDIn (tVar 5) (tVar 2)) rfl scPlaced.nd (pi_list (pe_meth (pv 0) c mO GO hr bO .nil pass0 (pa_cons (pv 4) pa_nil))) (blkOk_by (N := nPL) (sc := defScope sPlaced) (by decide +kernel))
                (fun _ _ _ _ _ => pg_name (i := 5) scPlaced.nd rfl (Or.inl rfl)) (fun _ _ _ _ _ => pts_nil) (fun _ _ _ _ _ => pe_cmp (pc_din hu (pv 5) (pv 2)) rfl)) pa_nil)))
            (pss_one (ps_dput hu (pv 2) (pv 4) pe_bl rfl)) pss_nil)))))
      (pss_one (ps_ret (pe_cmpR op_eq (pe_callB call_lenD (by rfl) ml PySem.boot_len (pa_cons (pv 2) pa_nil)) (pe_callB call_lenD (by rfl) ml PySem.boot_len (pa_cons (pv 1) pa_nil)) (nomark _))))), ?_⟩
    have wl := W.len
    -- places = {}
    intro p np
    have s0 : Same H (upd H p (.dK (plK []))) := same_upd np
    refine ⟨_, rfl, o, _, rfl, s0 _ _ ho, ((tabK ws A2).length : Int), rfl, by rw [tabK_len]; omega, by rw [tabK_len]; omega, ?_⟩
    rw [Int.toNat_natCast, tabK_len]
    refine for_range (lo := 0) (n := ws.length) (fun k σ H1 => ∃ (ps : List Str) (y3 y4 : Option V), σ = [some (.ref x), some (.ref o), some (.ref p), y3, y4, none] ∧ Same H H1 ∧ H1 p = some (.dK (plK ps)) ∧ Rg.Plc ws k ps)
      ⟨[], none, none, rfl, s0, upd_same, Rg.Plc.start ws⟩ ?_ ?_
    · rintro k σ H1 hk ⟨ps0, y3, y4, rfl, s1, ep1, r0⟩
      -- for name in web.names()
      refine ⟨_, rfl, x, dx, _, rfl, s1 _ _ hx, rfl, x, dx, d, ws, A, U, rfl, s1 _ _ hx, tb.same s1, fun l H2 s2 nl el => ?_⟩
      refine ⟨l, rfl, ⟨_, SqL.of el⟩, for_list (K := K) (a := l) (xs := ws.map V.str)
        (fun i σ H3 => ∃ (ps : List Str) (y4 : Option V), σ = [some (.ref x), some (.ref o), some (.ref p), some (.int (0 + (k : Int))), y4, none] ∧ Same H H3 ∧ H3 p = some (.dK (plK ps)) ∧ H3 l = some (.lst (ws.map V.str)) ∧ Rg.PlR ws U ps0 i ps)
        ⟨ps0, y4, rfl, s1.trans s2, s2 _ _ ep1, el, r0.rnd⟩ (fun i σ H3 _ ⟨_, _, _, _, _, e2, _⟩ => SqL.of e2) ?_ ?_⟩
      · rintro i v σ H3 hv ⟨ps, y4', rfl, s3, ep3, el3, r3⟩
        obtain ⟨y, hy, rfl⟩ := mapS_at hv
        have hyw : y ∈ ws := List.mem_of_getElem? hy
        have pl := Rg.len_le ps ws r3.nd r3.sub
        have ul := W.ul y hyw
        have npl : l ≠ p := fun z => by rw [z, ep3] at el3; cases el3
        -- all([one in places for one in web.over(name)])
        refine ⟨_, rfl, x, dx, _, rfl, s3 _ _ hx, rfl, _, rfl, x, dx, d, ws, A, U, y, rfl, s3 _ _ hx, tb.same s3, hyw, fun m H4 s4 nm em => ?_⟩
        refine ⟨m, rfl, ⟨_, SqL.of em⟩, fun D nD => ?_⟩
        refine lc_S (K := K) (a := m) (ys := U y) (fun u => V.bl (decide (u ∈ ps))) (fun _ => true) nD (SqL.of em) (by omega) (fun u H5 N M hu5 s5 hT hF => ?_) (fun H5 s5 e5 => ?_)
        · refine ⟨rfl, ?_⟩
          refine iteT (B := M H5) ?_
          refine ⟨_, rfl, _, rfl, p, _, rfl, DGet.k (k := (Sum.inr u : Key)) (s5 _ _ (s4 _ _ ep3)), ?_⟩
          rw [plK_has]
          exact hT rfl _ (Same.refl _)
        · rw [filter_all] at e5
          refine ⟨D, (U y).map fun u => decide (u ∈ ps), rfl, ?_, ?_⟩
          · rw [List.map_map]
            exact SqL.of e5
          · have ea : ((U y).map fun u => decide (u ∈ ps)).all id = (U y).all fun u => decide (u ∈ ps) := by rw [List.all_map]; rfl
            rw [ea]
            have s45 := s4.trans s5
            have np0 : H p = none := np
            refine ⟨_, rfl, ?_⟩
            cases hc : (U y).all fun u => decide (u ∈ ps) with
            | false =>
              refine iteF ?_
              refine ⟨ps, _, rfl, s3.trans s45, s45 _ _ ep3, s45 _ _ el3, r3.stay hy fun z => ?_⟩
              have : ((U y).all fun u => decide (u ∈ ps)) = true := List.all_eq_true.mpr fun u hu => decide_eq_true (z u hu)
              rw [hc] at this
              cases this
            | true =>
              refine iteT ?_
              refine ⟨_, rfl, _, rfl, p, _, rfl, DPut.k (k := (Sum.inr y : Key)) (s45 _ _ ep3) ?_, ?_⟩
              · rw [plK_len]
                exact small1000 (by omega)
              · by_cases hin : y ∈ ps
                · rw [plK_old hin]
                  exact ⟨ps, _, rfl, sRe (s3.trans s45) np0, upd_same, by rw [upd_ne npl]; exact s45 _ _ el3, r3.there hy hin⟩
                · rw [plK_new hin]
                  exact ⟨ps ++ [y], _, rfl, sRe (s3.trans s45) np0, upd_same, by rw [upd_ne npl]; exact s45 _ _ el3, r3.put hy hin⟩
      · rintro σ H3 ⟨ps, y4', rfl, s3, ep3, el3, r3⟩
        rw [List.length_map] at r3
        exact ⟨ps, _, _, rfl, s3, ep3, r3.done W.us hL r0⟩
    · rintro σ H1 ⟨ps, y3, y4, rfl, s1, ep1, r1⟩
      refine ⟨_, rfl, p, _, rfl, ep1, _, rfl, o, _, rfl, s1 _ _ ho, rfl, ?_⟩
      rw [plK_len, tabK_len, r1.all W.nd, decide_eq_true rfl]
      exact q H1 s1
end
end Rs
/-! walk: _law_is_ring, called within an except suite -/
namespace Rs
open PySem PySem.Spec PyProof.Rows L2 L2H
def spIsRing : Sp := fun vs H Q _ => ∃ (l d : Addr) (ws r : List Str) (A : Str → Addr) (U : Str → List Str), vs = [.ref l, .ref d] ∧ H l = some (.lst (r.map V.str)) ∧ Tab H d ws A U ∧ Wb ws U ∧ Rg.Ringed ws U r ∧ ∀ H', Same H H' → Q (.bl true) H'
section
variable {P : Program} {w : World} {K : PySem.W.Frag} {mg : Str → Option Value} {base : Heap}
theorem ok_isring {f : Addr} {fd : FuncData} (F : Fun K "_law_is_ring" "_law_is_ring" sIsRing f fd) (mi : mg "isinstance" = none) (ms : mg "list" = none) (ml : mg "len" = none) (me : mg "set" = none) (mz : mg "zip" = none) :
    L2H.FnH P w K mg base CX0 1 f fd ["_law_ring", "_law_overs_here"] spIsRing := by
  refine okH F scIsRing (fun vs H Q E h => ?_) (fun cdv A0 outer s H vs Q E p hp hr h => ?_)
  · obtain ⟨l, d, ws, r, A, U, rfl, _⟩ := h
    rfl
  · obtain ⟨l, d, ws, r, A, U, rfl, el, tb, W, R, q⟩ := h
    have hot : HotC (L2H.cxH CX0 P w K mg base ["_law_ring", "_law_overs_here", "_law_name", "_law_upper"] "_law_is_ring" (defScope sIsRing) f cdv A0 outer s H E p).nox := ⟨p, hp, List.mem_singleton.mpr rfl⟩
    have h64 : (A0.deeper (envOfC "_law_is_ring" (defScope sIsRing) s.heap.objs.size f cdv)).units + 64 < cLine := by
      have := hr.un
      omega
    have hu : (A0.deeper (envOfC "_law_is_ring" (defScope sIsRing) s.heap.objs.size f cdv)).units + 1 < cLine := by omega
    refine ⟨_, pss_cons (ps_if (PW.pt (pw_or (pt_not (pt_val (pe_callB call_isi (by rfl) mi (by decide +kernel) (pa_cons (pv 0) (pa_cons (pe_bltn (v := .ty "list") (u := .type "list") (by rfl) ms (by decide +kernel) rfl) pa_nil)))))
          (pw_or (pt_cmpR (op_eqD h64) (pv 0) (pe_lst pa_nil) (nomark _)) (pw_or1 (pt_cmpR op_ne (pe_lenS (.inr hot) (by rfl) ml (by rfl) me (pv 0)) (pe_callB call_len_seq (by rfl) ml PySem.boot_len (pa_cons (pv 0) pa_nil)) (nomark _))))))
        (pss_one (ps_ret pe_bl)) pss_nil)
      (pss_cons (ps_forH PassesOwn.never hot (pi_zipH (by rfl) mz (pa_cons (pv 0) (pa_cons (pe_op op_cat (pe_slice sl_list (pv 0) (po_some pe_int) po_none) (pe_slice sl_list (pv 0) po_none (po_some pe_int))) pa_nil)))
          (pg_tupS (.inr hot) (pgs_cons (pg_name (i := 2) scIsRing.nd rfl (.inl rfl)) (pgs_cons (pg_name (i := 3) scIsRing.nd rfl (.inl rfl)) pgs_nil)))
        (pss_one (ps_if (PW.pt (pw_or (pt_cmp (pc_dnotin hu (pv 2) (pv 1)) rfl) (pw_or1 (pt_cmpR op_notIn_seq (pv 3) (pe_dget hu (pv 1) (pv 2) (fun _ _ => rfl)) rfl)))) (pss_one (ps_ret pe_bl)) pss_nil)))
      (pss_one (ps_ret pe_bl))), ?_⟩
    have wl := W.len
    have rl := Rg.len_le r ws R.nd R.sub
    have rpos : 1 ≤ r.length := List.length_pos_iff.mpr R.ne
    -- isinstance(ring, list)
    refine ⟨_, rfl, .ref l, .ty "list", .type "list", .type "list", true, rfl, .ty "list", .base (.lst el), kit_ty (by decide +kernel), true, rfl, ?_⟩
    refine iteF ?_
    -- ring == []
    refine ⟨_, rfl, Nat.zero_le _, fun t nt => ?_⟩
    have st : Same H (upd H t (.lst [])) := same_upd nt
    refine ⟨.list (r.map PyData.str), .list [], .lst (SqL.of (st _ _ el)) (dp_strs _), .lst (SqL.of upd_same) .nil, shaped_strs (fun y hy => W.nm y (R.sub y hy)), rfl, _, rfl, ?_⟩
    rw [eqv_nil, decide_eq_false R.ne]
    refine iteF ?_
    generalize upd H t (.lst []) = H1 at st
    have el1 := st _ _ el
    -- len(set(ring)) != len(ring)
    refine ⟨_, rfl, l, r, rfl, SqL.of el1, R.nd, by omega, ?_⟩
    refine ⟨_, rfl, l, _, rfl, .inl (SqL.of el1), rfl, _, rfl, ?_⟩
    rw [List.length_map, decide_eq_true rfl]
    refine iteF ?_
    -- zip(ring, ring[1:] + ring[:1])
    refine ⟨_, rfl, _, rfl, 1, rfl, l, _, rfl, SqL.of el1, fun p1 n1 => ?_⟩
    have s1 : Same H1 (upd H1 p1 (.lst (cutV (r.map V.str) (some 1) none))) := same_upd n1
    have e1 : (upd H1 p1 (.lst (cutV (r.map V.str) (some 1) none))) p1 = some (.lst ((r.drop 1).map V.str)) := by
      rw [upd_same, show (1 : Int) = ((1 : Nat) : Int) from rfl, cut_from _ (by rw [List.length_map]; omega), List.map_drop]
    generalize upd H1 p1 (.lst (cutV (r.map V.str) (some 1) none)) = H2 at s1 e1
    refine ⟨_, rfl, 1, rfl, l, _, rfl, SqL.of (s1 _ _ el1), fun p2 n2 => ?_⟩
    have s2 : Same H2 (upd H2 p2 (.lst (cutV (r.map V.str) none (some 1)))) := same_upd n2
    have e2 : (upd H2 p2 (.lst (cutV (r.map V.str) none (some 1)))) p2 = some (.lst ((r.take 1).map V.str)) := by
      rw [upd_same, show (1 : Int) = ((1 : Nat) : Int) from rfl, cut_to _ (by rw [List.length_map]; omega), List.map_take]
    generalize upd H2 p2 (.lst (cutV (r.map V.str) none (some 1))) = H3 at s2 e2
    refine ⟨p1, p2, _, _, rfl, rfl, s2 _ _ e1, e2, ?_, fun p3 n3 => ?_⟩
    · rw [List.length_map, List.length_map, List.length_drop, List.length_take]
      exact small (by omega)
    rw [← List.map_append]
    have s3 : Same H3 (upd H3 p3 (.lst ((r.drop 1 ++ r.take 1).map V.str))) := same_upd n3
    have s03 : Same H (upd H3 p3 (.lst ((r.drop 1 ++ r.take 1).map V.str))) := ((st.trans s1).trans s2).trans s3
    refine ⟨l, p3, _, _, rfl, SqL.of (s03 _ _ el), SqL.of upd_same, ?_⟩
    refine for_zipH (K := K) (a := l) (b := p3) (xs := r.map V.str) (ys := (r.drop 1 ++ r.take 1).map V.str) ?_
      (fun i σ H4 => ∃ y2 y3, σ = [some (.ref l), some (.ref d), y2, y3] ∧ Same H H4 ∧ H4 p3 = some (.lst ((r.drop 1 ++ r.take 1).map V.str))) ⟨none, none, rfl, s03, upd_same⟩ (fun i σ H4 ⟨_, _, _, s4, e4⟩ => ⟨SqL.of (s4 _ _ el), SqL.of e4⟩) ?_ ?_
    · rw [List.length_map, List.length_map, List.length_append, List.length_drop, List.length_take]
      omega
    · rintro i x y T σ H4 hx hy ⟨y2, y3, rfl, s4, e4⟩ nT
      obtain ⟨x', hx', rfl⟩ := mapS_at hx
      obtain ⟨y', hy', rfl⟩ := mapS_at hy
      have hxr : x' ∈ r := List.mem_of_getElem? hx'
      have hxw : x' ∈ ws := R.sub x' hxr
      have hyU : y' ∈ U x' := R.pair hx' hy'
      have sT : Same H4 (upd H4 T (.tup [.str x', .str y'])) := same_upd nT
      have s5 := s4.trans sT
      have tb5 := tb.same s5
      refine ⟨T, [.str x', .str y'], rfl, SqT.of upd_same, rfl, .str x', [.str y'], rfl, .str y', [], rfl, rfl, ?_⟩
      obtain ⟨o, go, eo⟩ := tb5.has x'
      -- name not in overs
      refine ⟨_, rfl, _, rfl, d, o, rfl, go, _, rfl, ?_⟩
      rw [eo, decide_eq_true hxw]
      refine iteF ?_
      -- upper not in overs[name]
      refine ⟨_, rfl, _, rfl, _, rfl, d, _, rfl, tb5.get hxw, A x', _, rfl, .inl (SqL.of (tb5.ls x' hxw)), rfl, flatS _, _, rfl, ?_⟩
      rw [if_pos rfl, inS, decide_eq_true hyU]
      refine iteF ?_
      exact ⟨_, _, rfl, s5, sT _ _ e4⟩
    · rintro σ H4 ⟨y2, y3, rfl, s4, e4⟩
      exact q H4 s4
end
end Rs
/-! walk: law -/
namespace Rs
open PySem PySem.Spec PyProof.Rows L2
/-- a loop over enumerate(list) -/
theorem for_enumT {K : PySem.W.Frag} {a : Addr} {xs : List V} {g : TG} {tb : TS} {D : Ends} {σ : L2.St} {H : Hp} (Pv : Nat → L2.St → Hp → Prop) (h0 : Pv 0 σ H) (hq : ∀ i σ H, Pv i σ H → SqL K H a xs)
    (hs : ∀ (i : Nat) (x : V) (T : Addr) (σ : L2.St) (H : Hp), xs[i]? = some x → Pv i σ H → H T = none → g (.ref T) σ (upd H T (.tup [.int (i : Nat), x])) fun σ2 H2 => tb { D with nx := Pv (i + 1), ct := Pv (i + 1), bk := D.nx } σ2 H2) (hd : ∀ σ H, Pv xs.length σ H → D.nx σ H) :
    ∃ W : Nat → Nat → L2.St → Hp → Prop, (∃ m, W 0 m σ H) ∧ ∀ i m σ H, W i m σ H →
      ((Ite K a).stop i H ∧ D.nx σ H) ∨ ((Ite K a).go i H ∧ ∃ N : L2.St → Hp → Prop, (∀ σ' H', N σ' H' → ∃ m', m' < m ∧ W (i + 1) m' σ' H') ∧ ∀ v H', (Ite K a).yld i H v H' → g v σ H' fun σ2 H2 => tb { D with nx := N, ct := N, bk := D.nx } σ2 H2) := by
  refine ⟨fun i m σ H => i + m = xs.length ∧ Pv i σ H, ⟨xs.length, Nat.zero_add _, h0⟩, fun i m σ H ⟨e, hP⟩ => ?_⟩
  have qa := hq i σ H hP
  by_cases hi : i < xs.length
  · have hx : xs[i]? = some xs[i] := List.getElem?_eq_getElem hi
    refine .inr ⟨⟨xs, _, qa, hx⟩, Pv (i + 1), fun σ' H' h => ⟨m - 1, by omega, by omega, h⟩, fun v H' hv => ?_⟩
    obtain ⟨T, x, rfl, nT, rfl, f1⟩ := hv
    exact hs i x T σ H (f1 _ qa) hP nT
  · refine .inl ⟨⟨xs, qa, by omega⟩, ?_⟩
    have e2 : i = xs.length := by omega
    rw [e2] at hP
    exact hd σ H hP
/-- a made instance leaves the rest as it was -/
theorem made_same {H : Hp} {x dx C : Addr} (nx : H x = none) (nd : H dx = none) (ne : dx ≠ x) : Same H (upd (upd H dx (.own x)) x (.ins C dx [])) := sPut (same_upd nd) (by rw [upd_ne ne.symm]; exact nx)
theorem TpsT.snoc {H : Hp} {D t b : Addr} {vs : List Str} {T B : Str → Addr} {U : Str → List Str} {x : Str} (nx : x ∉ vs) (n0 : H D = some (.lst (vs.map fun y => V.ref (T y)))) (tp : TpsT H D vs T B U)
    (et : H t = some (.tup [.str x, .ref b])) (eb : H b = some (.lst ((U x).map V.str))) (hbD : b ≠ D) (hB : ∀ y ∈ vs, B y ≠ D) :
    TpsT (upd H D (.lst ((vs.map fun y => V.ref (T y)) ++ [.ref t]))) D (vs ++ [x]) (fun y => if y = x then t else T y) (fun y => if y = x then b else B y) U := by
  have key : ∀ y ∈ vs, ¬ y = x := fun y hy z => nx (z ▸ hy)
  have hT : ∀ (c : Addr) (ys : List V), H c = some (.tup ys) → c ≠ D := fun c ys e => But.ne n0 e (fun z => by cases z)
  refine ⟨?_, fun y hy => ?_, fun y hy => ?_⟩
  · rw [upd_same, List.map_append]
    have e1 : (vs.map fun y => V.ref (T y)) = vs.map fun y => V.ref (if y = x then t else T y) := List.map_congr_left fun y hy => by rw [if_neg (key y hy)]
    rw [e1]
    show _ = some (HO.lst (_ ++ [V.ref (if x = x then t else T x)]))
    rw [if_pos rfl]
  · show upd H D _ (if y = x then t else T y) = some (.tup [.str y, .ref (if y = x then b else B y)])
    by_cases e : y = x
    · rw [if_pos e, if_pos e, upd_ne (hT _ _ et), e]
      exact et
    · have hm : y ∈ vs := by
        rcases List.mem_append.mp hy with h | h
        · exact h
        · exact absurd (List.mem_singleton.mp h) e
      rw [if_neg e, if_neg e, upd_ne (hT _ _ (tp.tp y hm))]
      exact tp.tp y hm
  · show upd H D _ (if y = x then b else B y) = some (.lst ((U y).map V.str))
    by_cases e : y = x
    · rw [if_pos e, upd_ne hbD, e]
      exact eb
    · have hm : y ∈ vs := by
        rcases List.mem_append.mp hy with h | h
        · exact h
        · exact absurd (List.mem_singleton.mp h) e
      rw [if_neg e, upd_ne (hB y hm)]
      exact tp.ls y hm
def rLstC (K : PySem.W.Frag) : List V → Hp → VK → Prop := fun xs H Q => ∃ p ys, xs = [.ref p] ∧ (SqL K H p ys ∨ SqT K H p ys) ∧ ∀ l, H l = none → Q (.ref l) (upd H l (.lst ys))
def spLaw (K : PySem.W.Frag) : Sp := fun vs H Q _ => ∃ (a : Addr) (ns : List Int), vs = [.ref a] ∧ SqL K H a (ns.map V.int) ∧ ns.length ≤ 63 ∧ ∀ H', Q (.bl true) H'
section
variable {P : Program} {w : World} {K : PySem.W.Frag} {mg : Str → Option Value} {base : Heap}
abbrev nLaw : List Str := ["_law_script", "_law_names_here", "_law_overs_here", "_law_k", "_law_name", "_law_left_here", "_law_web", "e"]
theorem ok_law {f fP fNa fOv fLe fWe fRi fPl CW CR : Addr} {fd fdP fdNa fdOv fdLe fdWe fdRi fdPl : FuncData} (F : Fun K "law" "law" sLaw f fd)
    (CP : Cal K mg "_law_pick" fP fdP ["_law_script", "_law_k"]) (GP : FnOk P w K mg base CX0 1 fP fdP ["_law_script", "_law_k"] (spPick K))
    (CNa : Cal K mg "_law_names" fNa fdNa ["_law_script", "_law_many"]) (GNa : FnOk P w K mg base CX0 3 fNa fdNa ["_law_script", "_law_many"] (spNames K))
    (COv : Cal K mg "_law_overs" fOv fdOv ["_law_script", "_law_names_here", "_law_k"]) (GOv : FnOk P w K mg base CX0 3 fOv fdOv ["_law_script", "_law_names_here", "_law_k"] (spOvers K))
    (CLe : Cal K mg "_law_left" fLe fdLe ["_law_overs_here"]) (GLe : FnOk P w K mg base CX0 1 fLe fdLe ["_law_overs_here"] spInRings)
    (M : Mk K CW fWe) (GWe : FnOk P w K mg base (L2N.CX P w) 4 fWe fdWe ["self", "tuples"] (spWeb CW CR)) (mW : mg "Web" = some (.ref CW)) (bW : L2.Binds K fdWe ["self", "tuples"] [])
    (CRi : Cal K mg "_law_is_ring" fRi fdRi ["_law_ring", "_law_overs_here"]) (GRi : L2H.FnH P w K mg base CX0 1 fRi fdRi ["_law_ring", "_law_overs_here"] spIsRing)
    (CPl : Cal K mg "_law_placed" fPl fdPl ["_law_web", "_law_overs_here"]) (GPl : FnOk P w K mg base CX0 2 fPl fdPl ["_law_web", "_law_overs_here"] (spPlaced CW))
    (mR : mg "Ring" = some (.ref CR)) (XF : XfC K CR) (hno : PySem.W.findIn K (.ref CR) "ring" = some none) (exR : PySem.W.exmOne K (.ref CR) (.ref CR) = some true) (me : mg "enumerate" = none) (mi : mg "list" = none) :
    FnOk P w K mg base CX0 6 f fd ["_law_script"] (spLaw K) := by
  refine F.ok scLaw (fun vs H Q E h => ?_) (fun cdv A0 outer s H vs Q E hr h => ?_)
  · obtain ⟨a, ns, rfl, _⟩ := h
    rfl
  · obtain ⟨a, ns, rfl, hS, hl, q⟩ := h
    have hu := hu_of hr
    have hr1 : Room 1 _ := hr.mono (by decide)
    have hr2 : Room 2 _ := hr.mono (by decide)
    have hr3 : Room 3 _ := hr.mono (by decide)
    refine ⟨_, pss_cons (ps_set (i := 1) scLaw.nd rfl (.inl rfl) (pe_call GNa hr3 (by rfl) CNa.mgf CNa.kp CNa.b .nil pass0 (pa_cons (pv 0) (pa_cons (pe_op op_mod (pe_op op_fdiv (pe_call GP hr1 (by rfl) CP.mgf CP.kp CP.b .nil pass0 (pa_cons (pv 0) (pa_cons pe_int pa_nil))) pe_int) pe_int) pa_nil))))
      (pss_cons (ps_set (i := 2) scLaw.nd rfl (.inr rfl) pe_dnewK)
      (pss_cons (ps_for PassesOwn.never rfl (pi_enum (by rfl) me (pa_cons (pv 1) pa_nil)) (pg_tup rfl (pgs_cons (pg_name (i := 3) scLaw.nd rfl (.inl rfl)) (pgs_cons (pg_name (i := 4) scLaw.nd rfl (.inl rfl)) pgs_nil)))
        (pss_one (ps_dput hu (pv 2) (pv 4) (pe_call GOv hr3 (by rfl) COv.mgf COv.kp COv.b .nil pass0 (pa_cons (pv 0) (pa_cons (pv 1) (pa_cons (pv 3) pa_nil)))) rfl)))
      (pss_cons (ps_set (i := 5) scLaw.nd rfl (.inl rfl) (pe_call GLe hr1 (by rfl) CLe.mgf CLe.kp CLe.b .nil pass0 (pa_cons (pv 2) pa_nil)))
      (pss_cons (L2N.ps_try_as (i := 7) rfl rfl scLaw.nd rfl rfl ⟨by rfl, by decide, .inl mR⟩ takesN0
        (fun W pn xe tk' _ => pss_one (ps_set (i := 6) scLaw.nd rfl (.inl rfl) (pe_makeS M GWe hr (by rfl) mW bW (fun σ => L2N.passAt tk' σ) (pa_cons
          (pe_lc (own := [("_law_name", 4)]) (wi := iList K (tVar 1)) (g := gName 4) (tt := tYes) (te := tTup (tCons (tVar 4) (tCons (tCB (rLstC K) (tCons (tDGet (tVar 2) (tVar 4)) tNil)) tNil))) rfl scLaw.nd (pi_list (pv 1)) (blkOk_by (N := nLaw) (sc := defScope sLaw) (by decide +kernel))
            (fun _ _ _ _ _ => pg_name (i := 4) scLaw.nd rfl (Or.inl rfl)) (fun _ _ _ _ _ => pts_nil)
            (fun _ _ _ _ _ => pe_tup (pa_cons (pv 4) (pa_cons (pe_callTy call_list_of (by rfl) mi (by decide +kernel) (pa_cons (pe_dget hu (pv 2) (pv 4) (fun _ _ => rfl)) pa_nil)) pa_nil)))) pa_nil))))
        (fun c oe cls d pn hz hf => pss_one (ps_ret (pe_and (pe_cmpR (r := rNeD K) (op_neD hr.units) (pv 5) (pe_lst pa_nil) (nomark _)) (pe_one
          (L2H.pe_callH (E := fun _ _ _ _ => False) GRi (L2H.roomH_mark hr1 _) ⟨(c, oe), ⟨rfl, by obtain ⟨vs, hvs⟩ := hf; exact ⟨vs, hvs, hz.2.2 vs hvs⟩⟩, List.mem_cons_self ..⟩ (by rfl) CRi.mgf CRi.kp CRi.b (fun σ => fun pins H s e s' I x => pass0 pins σ H s e s' I x)
            (pa_cons (pe_xf XF hno hz.zc hf (pv 7) rfl) (pa_cons (pv 2) pa_nil))))))))
      (pss_one (ps_ret (pe_and (pe_cmpR (op_eqD hr.units) (pv 5) (pe_lst pa_nil) (nomark _)) (pe_one (pe_call GPl hr2 (by rfl) CPl.mgf CPl.kp CPl.b .nil pass0 (pa_cons (pv 6) (pa_cons (pv 2) pa_nil))))))))))), ?_⟩
    -- names
    refine ⟨_, rfl, _, rfl, a, ns, 0, rfl, hS, hl, fun z H1 s1 => ?_⟩
    refine ⟨z, 2, rfl, rfl, ⟨by decide, by decide⟩, _, 25, rfl, rfl, (by show (0 : Int) < 25; decide), a, ns, (z / 2 % 25).toNat, ?_, s1.seq hS, hl, by omega, fun ws l H2 hwl hnd hnm s2 nl el => ?_⟩
    · have : ((z / 2 % 25).toNat : Int) = z / 2 % 25 := Int.toNat_of_nonneg (Int.emod_nonneg _ (by decide))
      rw [this]
      rfl
    have wl : ws.length ≤ 24 := by omega
    have s02 := s1.trans s2
    have nl0 : H l = none := s1.free nl
    -- overs = {}
    intro d nd
    have nld : l ≠ d := ne_of_none el nd
    have nd0 : H d = none := s02.free nd
    have s3 : Same H2 (upd H2 d (.dK [])) := same_upd nd
    -- for k, name in enumerate(names)
    refine ⟨_, rfl, l, _, rfl, SqL.of (s3 _ _ el), ?_⟩
    refine for_enumT (K := K) (a := l) (xs := ws.map V.str) (fun i σ H3 => ∃ (A : Str → Addr) (U : Str → List Str) (y3 y4 : Option V), σ = [some (.ref a), some (.ref l), some (.ref d), y3, y4, none, none, none] ∧ Same H H3 ∧ H3 l = some (.lst (ws.map V.str)) ∧ Tab H3 d (ws.take i) A U ∧
        ∀ y ∈ ws.take i, (U y).length ≤ 24 ∧ ∀ u ∈ U y, u ∈ ws)
      ⟨fun _ => 0, fun _ => [], none, none, rfl, s02.trans s3, s3 _ _ el, ⟨upd_same, fun y hy => (by cases hy)⟩, fun y hy => (by cases hy)⟩ (fun i σ H3 ⟨_, _, _, _, _, _, e3, _⟩ => SqL.of e3) ?_ ?_
    · rintro i v T σ H3 hv ⟨A, U, y3, y4, rfl, s4, el3, tb3, hU⟩ nT
      obtain ⟨y, hy, rfl⟩ := mapS_at hv
      have hm : y ∈ ws := List.mem_of_getElem? hy
      have ilt : i < ws.length := (List.getElem?_eq_some_iff.mp hy).1
      have sT : Same H3 (upd H3 T (.tup [.int (i : Nat), .str y])) := same_upd nT
      have et : ws.take (i + 1) = ws.take i ++ [y] := by rw [List.take_add_one, hy]; rfl
      have nin : y ∉ ws.take i := by
        have hnd2 : (ws.take (i + 1)).Nodup := (List.take_sublist _ _).nodup hnd
        rw [et, List.nodup_append] at hnd2
        exact fun h => hnd2.2.2 y h y (by simp) rfl
      refine ⟨T, [.int (i : Nat), .str y], rfl, SqT.of upd_same, rfl, .int (i : Nat), [.str y], rfl, .str y, [], rfl, rfl, ?_⟩
      -- overs[name] = _law_overs(script, names, k)
      have s5 := s4.trans sT
      refine ⟨_, rfl, _, rfl, _, rfl, a, l, ns, ws, ((i : Nat) : Int), rfl, s5.seq hS, hl, SqL.of (sT _ _ el3), List.ne_nil_of_mem hm, wl, by omega, by omega, fun us p H4 hul hus s6 np ep => ?_⟩
      have s36 := sT.trans s6
      have tb4 := tb3.same s36
      refine ⟨_, rfl, _, rfl, d, _, rfl, DPut.k (k := (Sum.inr y : Key)) tb4.dc ?_, ?_⟩
      · rw [tabK_len, List.length_take]
        exact small1000 (by omega)
      · refine ⟨fun z => if z = y then p else A z, fun z => if z = y then us else U z, _, _, rfl, sRe (s4.trans s36) nd0, by rw [upd_ne nld]; exact s36 _ _ el3, ?_, ?_⟩
        · rw [et]
          exact tb4.snoc nin ep
        · intro z hz
          rw [et] at hz
          show (if z = y then us else U z).length ≤ 24 ∧ ∀ u ∈ (if z = y then us else U z), u ∈ ws
          by_cases e : z = y
          · rw [if_pos e]
            exact ⟨hul, hus⟩
          · rw [if_neg e]
            rcases List.mem_append.mp hz with h | h
            · exact hU z h
            · exact absurd (List.mem_singleton.mp h) e
    · rintro σ H3 ⟨A, U, y3, y4, rfl, s4, el3, tb3, hU⟩
      rw [List.length_map, List.take_length] at tb3 hU
      have W : Wb ws U := ⟨hnd, wl, hnm, fun y hy => (hU y hy).1, fun y hy => (hU y hy).2⟩
      -- left = _law_left(overs)
      refine ⟨_, rfl, d, ws, A, U, rfl, tb3, W, fun L1 pl H4 hL1 s5 npl epl => ?_⟩
      have tb4 := tb3.same s5
      have el4 := s5 _ _ el3
      have fnm : ∀ y ∈ L1, NmS y := fun y hy => hnm y (hL1.sub y hy)
      -- [(name, list(overs[name])) for name in names]
      refine ⟨_, rfl, l, rfl, ⟨_, SqL.of el4⟩, fun D nD => ?_⟩
      refine lc_list (K := K) (a := l) (xs := ws.map V.str) (fun i H5 => ∃ T B : Str → Addr, Same H4 H5 ∧ TpsT H5 D (ws.take i) T B U ∧ ∀ y ∈ ws.take i, B y ≠ D)
        ⟨fun _ => 0, fun _ => 0, same_upd nD, ⟨upd_same, fun y hy => (by cases hy), fun y hy => (by cases hy)⟩, fun y hy => (by cases hy)⟩ (fun i H5 _ ⟨_, _, h5, _⟩ => SqL.of (h5 _ _ el4)) ?_ ?_
      · rintro i v H5 hv ⟨T, B, s6, tp, hB⟩
        obtain ⟨y, hy, rfl⟩ := mapS_at hv
        have hm : y ∈ ws := List.mem_of_getElem? hy
        have et : ws.take (i + 1) = ws.take i ++ [y] := by rw [List.take_add_one, hy]; rfl
        have nin : y ∉ ws.take i := by
          have hnd2 : (ws.take (i + 1)).Nodup := (List.take_sublist _ _).nodup hnd
          rw [et, List.nodup_append] at hnd2
          exact fun h => hnd2.2.2 y h y (by simp) rfl
        have tb5 := tb4.same s6
        refine ⟨rfl, ?_⟩
        rw [show (tYes : TT) = fun _ H Q => Q true H from rfl]
        dsimp only
        rw [if_pos rfl]
        refine ⟨_, rfl, _, rfl, _, rfl, d, _, rfl, tb5.get hm, A y, _, rfl, .inl (SqL.of (tb5.ls y hm)), fun b nb => ?_⟩
        have sb : Same H5 (upd H5 b (.lst ((U y).map V.str))) := same_upd nb
        refine ⟨(by show 2 ≤ sizeLine; decide), fun t nt => ?_⟩
        have st : Same (upd H5 b (.lst ((U y).map V.str))) (upd (upd H5 b (.lst ((U y).map V.str))) t (.tup [.str y, .ref b])) := same_upd nt
        have tp6 := tp.same (sb.trans st)
        have nbD : b ≠ D := fun z => by rw [z, tp.sq] at nb; cases nb
        refine ⟨_, tp6.sq, ?_, fun z => if z = y then t else T z, fun z => if z = y then b else B z, sRe ((s6.trans sb).trans st) nD, ?_, ?_⟩
        · rw [List.length_map, List.length_take]
          exact small1000 (by omega)
        · rw [et]
          exact TpsT.snoc nin tp6.sq tp6 upd_same (st _ _ upd_same) nbD hB
        · intro z hz
          rw [et] at hz
          show (if z = y then b else B z) ≠ D
          by_cases e : z = y
          · rw [if_pos e]
            exact nbD
          · rw [if_neg e]
            rcases List.mem_append.mp hz with h | h
            · exact hB z h
            · exact absurd (List.mem_singleton.mp h) e
      · rintro H5 ⟨T, B, s6, tp, hB⟩
        rw [List.length_map, List.take_length] at tp
        -- Web(..)
        intro x dx nx ndx nxd
        have sm := made_same (C := CW) nx ndx nxd
        have s46 : Same H4 (upd (upd H5 dx (.own x)) x (.ins CW dx [])) := s6.trans sm
        have back : ∀ H', But x (upd (upd H5 dx (.own x)) x (.ins CW dx [])) H' → Same H4 H' := fun H' b => s6.trans (((But.of sm).trans b).same nx)
        refine ⟨x, dx, D, ws, T, B, U, rfl, upd_same, tp.same sm, W, fun d' A' U' H6 hx6 tb6 W' hiff hL b6 => ⟨rfl, ?_⟩, fun r L dd l' H6 hR hL hn b6 hdd hl' => ?_⟩
        · -- a web
          have s6' := back H6 b6
          have hL0 : Rg.Left ws U [] := hL.congr hiff
          have e0 : L1 = [] := (hL1.nil_iff hL0).2 rfl
          refine ⟨_, rfl, Nat.zero_le _, fun t nt => ?_⟩
          have st : Same H6 (upd H6 t (.lst [])) := same_upd nt
          refine ⟨.list (L1.map PyData.str), .list [], .lst (SqL.of (st _ _ (s6' _ _ epl))) (dp_strs _), .lst (SqL.of upd_same) .nil, shaped_strs fnm, rfl, _, rfl, ?_⟩
          rw [eqv_nil, decide_eq_true e0]
          refine iteT ?_
          refine ⟨_, rfl, _, rfl, x, dx, d', d, ws, A', A, U', rfl, st _ _ hx6, tb6.same st, st _ _ (s6' _ _ tb4.dc), W', hL, fun H7 s7 => ?_⟩
          exact q H7
        · -- a ring
          have s6' := back H6 b6
          have hne : L1 ≠ [] := fun e => hn ((hL1.nil_iff hL).1 e)
          refine ⟨true, exR, fun _ c nc => ?_, fun z => by cases z⟩
          refine ⟨_, rfl, Nat.zero_le _, fun t nt => ?_⟩
          have st : Same H6 (upd H6 t (.lst [])) := same_upd nt
          refine ⟨.list (L1.map PyData.str), .list [], .lst (SqL.of (st _ _ (s6' _ _ epl))) (dp_strs _), .lst (SqL.of upd_same) .nil, shaped_strs fnm, rfl, _, rfl, ?_⟩
          rw [eqv_nil, decide_eq_false hne]
          refine iteT ?_
          refine ⟨_, rfl, rfl, rfl, dd, _, .ref l', rfl, st _ _ hdd, rfl, _, rfl, l', d, ws, r, A, U, rfl, st _ _ hl', (tb4.same s6').same st, W, hR, fun H7 s7 => ?_⟩
          exact q H7
end
end Rs
/-! the top of the text, the end -/
namespace Rs
open PySem PySem.Spec PyProof.Rows L2
theorem all_mk {P : Program} {w : World} {K : PySem.W.Frag} {h : Heap} {mg : Str → Option Value} {fa CF CR CW aO fis flo fir ffr fpi fwo fnu fna fov fle fri fpl fla frg fwe fwn fwv : Addr} (X : K.In h) (G : h.Ns mainGlobals mg) (hfa : mg "law" = some (.ref fa))
    {odis anis : Option Addr} {slis : Array (Option Value)} {ocis kVis dcis pmis cdis ctis : Value}
    {odlo anlo : Option Addr} {sllo : Array (Option Value)} {oclo kVlo dclo pmlo cdlo ctlo : Value}
    {odir anir : Option Addr} {slir : Array (Option Value)} {ocir kVir dcir pmir cdir ctir : Value}
    {odfr anfr : Option Addr} {slfr : Array (Option Value)} {ocfr kVfr dcfr pmfr cdfr ctfr : Value}
    {odpi anpi : Option Addr} {slpi : Array (Option Value)} {ocpi kVpi dcpi pmpi cdpi ctpi : Value}
    {odwo anwo : Option Addr} {slwo : Array (Option Value)} {ocwo kVwo dcwo pmwo cdwo ctwo : Value}
    {odnu annu : Option Addr} {slnu : Array (Option Value)} {ocnu kVnu dcnu pmnu cdnu ctnu : Value}
    {odna anna : Option Addr} {slna : Array (Option Value)} {ocna kVna dcna pmna cdna ctna : Value}
    {odov anov : Option Addr} {slov : Array (Option Value)} {ocov kVov dcov pmov cdov ctov : Value}
    {odle anle : Option Addr} {slle : Array (Option Value)} {ocle kVle dcle pmle cdle ctle : Value}
    {odri anri : Option Addr} {slri : Array (Option Value)} {ocri kVri dcri pmri cdri ctri : Value}
    {odpl anpl : Option Addr} {slpl : Array (Option Value)} {ocpl kVpl dcpl pmpl cdpl ctpl : Value}
    {odla anla : Option Addr} {slla : Array (Option Value)} {ocla kVla dcla pmla cdla ctla : Value}
    {odrg anrg : Option Addr} {slrg : Array (Option Value)} {ocrg kVrg dcrg pmrg cdrg ctrg : Value}
    {odwe anwe : Option Addr} {slwe : Array (Option Value)} {ocwe kVwe dcwe pmwe cdwe ctwe : Value}
    {odwn anwn : Option Addr} {slwn : Array (Option Value)} {ocwn kVwn dcwn pmwn cdwn ctwn : Value}
    {odwv anwv : Option Addr} {slwv : Array (Option Value)} {ocwv kVwv dcwv pmwv cdwv ctwv : Value}
    {nm q : Str} {N : Addr} {bs : List Value} {sn : List Str} {sub : List Value} {ab : Bool} {col : Option Bool} {dd : Option Addr} {m0 m1 m2 m3 m5 : Option Value} {tL tM t0 t1 t2 t3 t4 : Tok} {ddO : Option Addr} {nO : Nat} {slO : Array (Option Value)}
    (ais : PySem.W.nsIn K mainGlobals "is_name" = some (some (.ref fis)))
    (alo : PySem.W.nsIn K mainGlobals "look_at_names" = some (some (.ref flo)))
    (air : PySem.W.nsIn K mainGlobals "in_rings" = some (some (.ref fir)))
    (afr : PySem.W.nsIn K mainGlobals "look_for_rings" = some (some (.ref ffr)))
    (api : PySem.W.nsIn K mainGlobals "_law_pick" = some (some (.ref fpi)))
    (awo : PySem.W.nsIn K mainGlobals "_law_word" = some (some (.ref fwo)))
    (anu : PySem.W.nsIn K mainGlobals "_law_number" = some (some (.ref fnu)))
    (ana : PySem.W.nsIn K mainGlobals "_law_names" = some (some (.ref fna)))
    (aov : PySem.W.nsIn K mainGlobals "_law_overs" = some (some (.ref fov)))
    (ale : PySem.W.nsIn K mainGlobals "_law_left" = some (some (.ref fle)))
    (ari : PySem.W.nsIn K mainGlobals "_law_is_ring" = some (some (.ref fri)))
    (apl : PySem.W.nsIn K mainGlobals "_law_placed" = some (some (.ref fpl)))
    (ala : PySem.W.nsIn K mainGlobals "law" = some (some (.ref fla)))
    (aCF : PySem.W.nsIn K mainGlobals "FitError" = some (some (.ref CF)))
    (aCR : PySem.W.nsIn K mainGlobals "Ring" = some (some (.ref CR)))
    (aCW : PySem.W.nsIn K mainGlobals "Web" = some (some (.ref CW)))
    (arg : PySem.W.findIn K (.ref CR) "__init__" = some (some (.ref frg)))
    (irg : PySem.W.isFn K (.ref frg) = true)
    (awe : PySem.W.findIn K (.ref CW) "__init__" = some (some (.ref fwe)))
    (iwe : PySem.W.isFn K (.ref fwe) = true)
    (awn : PySem.W.findIn K (.ref CW) "names" = some (some (.ref fwn)))
    (iwn : PySem.W.isFn K (.ref fwn) = true)
    (awv : PySem.W.findIn K (.ref CW) "over" = some (some (.ref fwv)))
    (iwv : PySem.W.isFn K (.ref fwv) = true)
    (lis : K.lookup fis = some ⟨ocis, odis, .func (PySem.W.fnOf "is_name" "is_name" (defArgs sIsName) (defBody sIsName) (defScope sIsName) .none kVis dcis pmis anis cdis ctis), slis⟩)
    (cis : PySem.W.codeIn K cdis "is_name" = true)
    (kis : PySem.W.keepIn K (.ref fis) = true)
    (llo : K.lookup flo = some ⟨oclo, odlo, .func (PySem.W.fnOf "look_at_names" "look_at_names" (defArgs sLook) (defBody sLook) (defScope sLook) .none kVlo dclo pmlo anlo cdlo ctlo), sllo⟩)
    (clo : PySem.W.codeIn K cdlo "look_at_names" = true)
    (klo : PySem.W.keepIn K (.ref flo) = true)
    (lir : K.lookup fir = some ⟨ocir, odir, .func (PySem.W.fnOf "in_rings" "in_rings" (defArgs sInRings) (defBody sInRings) (defScope sInRings) .none kVir dcir pmir anir cdir ctir), slir⟩)
    (cir : PySem.W.codeIn K cdir "in_rings" = true)
    (kir : PySem.W.keepIn K (.ref fir) = true)
    (lfr : K.lookup ffr = some ⟨ocfr, odfr, .func (PySem.W.fnOf "look_for_rings" "look_for_rings" (defArgs sFor) (defBody sFor) (defScope sFor) .none kVfr dcfr pmfr anfr cdfr ctfr), slfr⟩)
    (cfr : PySem.W.codeIn K cdfr "look_for_rings" = true)
    (kfr : PySem.W.keepIn K (.ref ffr) = true)
    (lpi : K.lookup fpi = some ⟨ocpi, odpi, .func (PySem.W.fnOf "_law_pick" "_law_pick" (defArgs sPick) (defBody sPick) (defScope sPick) .none kVpi dcpi pmpi anpi cdpi ctpi), slpi⟩)
    (cpi : PySem.W.codeIn K cdpi "_law_pick" = true)
    (kpi : PySem.W.keepIn K (.ref fpi) = true)
    (lwo : K.lookup fwo = some ⟨ocwo, odwo, .func (PySem.W.fnOf "_law_word" "_law_word" (defArgs sWord) (defBody sWord) (defScope sWord) .none kVwo dcwo pmwo anwo cdwo ctwo), slwo⟩)
    (cwo : PySem.W.codeIn K cdwo "_law_word" = true)
    (kwo : PySem.W.keepIn K (.ref fwo) = true)
    (lnu : K.lookup fnu = some ⟨ocnu, odnu, .func (PySem.W.fnOf "_law_number" "_law_number" (defArgs sNumber) (defBody sNumber) (defScope sNumber) .none kVnu dcnu pmnu annu cdnu ctnu), slnu⟩)
    (cnu : PySem.W.codeIn K cdnu "_law_number" = true)
    (knu : PySem.W.keepIn K (.ref fnu) = true)
    (lna : K.lookup fna = some ⟨ocna, odna, .func (PySem.W.fnOf "_law_names" "_law_names" (defArgs sLNames) (defBody sLNames) (defScope sLNames) .none kVna dcna pmna anna cdna ctna), slna⟩)
    (cna : PySem.W.codeIn K cdna "_law_names" = true)
    (kna : PySem.W.keepIn K (.ref fna) = true)
    (lov : K.lookup fov = some ⟨ocov, odov, .func (PySem.W.fnOf "_law_overs" "_law_overs" (defArgs sOvers) (defBody sOvers) (defScope sOvers) .none kVov dcov pmov anov cdov ctov), slov⟩)
    (cov : PySem.W.codeIn K cdov "_law_overs" = true)
    (kov : PySem.W.keepIn K (.ref fov) = true)
    (lle : K.lookup fle = some ⟨ocle, odle, .func (PySem.W.fnOf "_law_left" "_law_left" (defArgs sLeft) (defBody sLeft) (defScope sLeft) .none kVle dcle pmle anle cdle ctle), slle⟩)
    (cle : PySem.W.codeIn K cdle "_law_left" = true)
    (kle : PySem.W.keepIn K (.ref fle) = true)
    (lri : K.lookup fri = some ⟨ocri, odri, .func (PySem.W.fnOf "_law_is_ring" "_law_is_ring" (defArgs sIsRing) (defBody sIsRing) (defScope sIsRing) .none kVri dcri pmri anri cdri ctri), slri⟩)
    (cri : PySem.W.codeIn K cdri "_law_is_ring" = true)
    (kri : PySem.W.keepIn K (.ref fri) = true)
    (lpl : K.lookup fpl = some ⟨ocpl, odpl, .func (PySem.W.fnOf "_law_placed" "_law_placed" (defArgs sPlaced) (defBody sPlaced) (defScope sPlaced) .none kVpl dcpl pmpl anpl cdpl ctpl), slpl⟩)
    (cpl : PySem.W.codeIn K cdpl "_law_placed" = true)
    (kpl : PySem.W.keepIn K (.ref fpl) = true)
    (lla : K.lookup fla = some ⟨ocla, odla, .func (PySem.W.fnOf "law" "law" (defArgs sLaw) (defBody sLaw) (defScope sLaw) .none kVla dcla pmla anla cdla ctla), slla⟩)
    (cla : PySem.W.codeIn K cdla "law" = true)
    (kla : PySem.W.keepIn K (.ref fla) = true)
    (lrg : K.lookup frg = some ⟨ocrg, odrg, .func (PySem.W.fnOf "__init__" "Ring.__init__" (defArgs sRing) (defBody sRing) (defScope sRing) .none kVrg dcrg pmrg anrg cdrg ctrg), slrg⟩)
    (crg : PySem.W.codeIn K cdrg "Ring.__init__" = true)
    (krg : PySem.W.keepIn K (.ref frg) = true)
    (lwe : K.lookup fwe = some ⟨ocwe, odwe, .func (PySem.W.fnOf "__init__" "Web.__init__" (defArgs sWeb) (defBody sWeb) (defScope sWeb) .none kVwe dcwe pmwe anwe cdwe ctwe), slwe⟩)
    (cwe : PySem.W.codeIn K cdwe "Web.__init__" = true)
    (kwe : PySem.W.keepIn K (.ref fwe) = true)
    (lwn : K.lookup fwn = some ⟨ocwn, odwn, .func (PySem.W.fnOf "names" "Web.names" (defArgs sNames) (defBody sNames) (defScope sNames) .none kVwn dcwn pmwn anwn cdwn ctwn), slwn⟩)
    (cwn : PySem.W.codeIn K cdwn "Web.names" = true)
    (kwn : PySem.W.keepIn K (.ref fwn) = true)
    (lwv : K.lookup fwv = some ⟨ocwv, odwv, .func (PySem.W.fnOf "over" "Web.over" (defArgs sOver) (defBody sOver) (defScope sOver) .none kVwv dcwv pmwv anwv cdwv ctwv), slwv⟩)
    (cwv : PySem.W.codeIn K cdwv "Web.over" = true)
    (kwv : PySem.W.keepIn K (.ref fwv) = true)
    (wpg : PySem.W.plainGet K CW Str.empty = true)
    (whd : PySem.W.hasDictIn K CW = true)
    (wpo : PySem.W.plainOver K CW = true)
    (wsa : PySem.W.findIn K (.ref CW) "__setattr__" = some (some (.builtin "object.__setattr__")))
    (wmk : PySem.W.makesIn K CW = true)
    (wkc : PySem.W.keepIn K (.ref CW) = true)
    (wnU : PySem.W.findIn K (.ref CW) "uppers" = some none)
    (xR : K.lookup CR = some (excClassObj nm q CR N bs [.ref CF, .type "ValueError", .type "Exception", .type "BaseException", .type "object"] true sn sub ab col dd m0 m1 m2 m3 m5 "ValueError.__new__"))
    (rsa : PySem.W.findIn K (.ref CR) "__setattr__" = some (some (.builtin "object.__setattr__")))
    (rga : PySem.W.findIn K (.ref CR) "__getattribute__" = some (some (.builtin "BaseException.__getattribute__")))
    (rgg : PySem.W.findIn K (.ref CR) "__getattr__" = some none)
    (rnR : PySem.W.findIn K (.ref CR) "ring" = some none)
    (rt : PySem.W.typeIn K (.ref frg) = some (.type "function"))
    (rkC : PySem.W.keepIn K (.ref CR) = true)
    (reC : PySem.W.subIn K (.ref CR) (.type "BaseException") = some true)
    (rtC : PySem.W.typeIn K (.ref CR) = some (.type "type"))
    (rhC : PySem.W.hasDictIn K CR = true)
    (riC : PySem.W.isClsIn K CR = true)
    (rsC : PySem.W.subIn K (.ref CR) (.ref CR) = some true)
    (brd : PySem.W.readsIn K CF (.type "type") = true)
    (bga : PySem.W.specialIn K (.ref CF) "__getattribute__" = some (some (.builtin "type.__getattribute__")))
    (bat : PySem.W.findCls K (.ref CF) (.type "type") "__init__" = some (.val (.builtin "ValueError.__init__")))
    (cL : PySem.W.nsIn K mainGlobals "LETTERS" = some (some (.str "abcdefghijklmnopqrstuvwxyz" tL)))
    (cM : PySem.W.nsIn K mainGlobals "MOST_LETTERS" = some (some (.int 8 tM)))
    (cO : PySem.W.nsIn K mainGlobals "OTHER_WORDS" = some (some (.ref aO)))
    (xO : K.lookup aO = some ⟨.type "tuple", ddO, .seq #[.str "any" t0, .str "none" t1, .str "blank" t2, .str "new" t3, .str "on" t4] nO, slO⟩)
    (z_isinstance : PySem.W.nsIn K mainGlobals "isinstance" = some none)
    (z_str : PySem.W.nsIn K mainGlobals "str" = some none)
    (z_len : PySem.W.nsIn K mainGlobals "len" = some none)
    (z_all : PySem.W.nsIn K mainGlobals "all" = some none)
    (z_any : PySem.W.nsIn K mainGlobals "any" = some none)
    (z_set : PySem.W.nsIn K mainGlobals "set" = some none)
    (z_sorted : PySem.W.nsIn K mainGlobals "sorted" = some none)
    (z_list : PySem.W.nsIn K mainGlobals "list" = some none)
    (z_range : PySem.W.nsIn K mainGlobals "range" = some none)
    (z_dict : PySem.W.nsIn K mainGlobals "dict" = some none)
    (z_zip : PySem.W.nsIn K mainGlobals "zip" = some none)
    (z_enumerate : PySem.W.nsIn K mainGlobals "enumerate" = some none) :
    ∃ fd : FuncData, (∀ (s : Shared) (v : Value), BindsTo s fd ⟨[v], []⟩ [("_law_script", v)]) ∧ ∀ base : Heap, K.In base → base.Ns mainGlobals mg → FnOk P w K mg base CX0 6 fa fd ["_law_script"] (spLaw K) := by
  have e := hfa.symm.trans (PySem.W.mg_of X G ala)
  cases e
  have Fis := fun_mk (st := sIsName) lis cis kis
  have Flo := fun_mk (st := sLook) llo clo klo
  have Fir := fun_mk (st := sInRings) lir cir kir
  have Ffr := fun_mk (st := sFor) lfr cfr kfr
  have Fpi := fun_mk (st := sPick) lpi cpi kpi
  have Fwo := fun_mk (st := sWord) lwo cwo kwo
  have Fnu := fun_mk (st := sNumber) lnu cnu knu
  have Fna := fun_mk (st := sLNames) lna cna kna
  have Fov := fun_mk (st := sOvers) lov cov kov
  have Fle := fun_mk (st := sLeft) lle cle kle
  have Fri := fun_mk (st := sIsRing) lri cri kri
  have Fpl := fun_mk (st := sPlaced) lpl cpl kpl
  have Fla := fun_mk (st := sLaw) lla cla kla
  have Frg := fun_mk (st := sRing) lrg crg krg
  have Fwe := fun_mk (st := sWeb) lwe cwe kwe
  have Fwn := fun_mk (st := sNames) lwn cwn kwn
  have Fwv := fun_mk (st := sOver) lwv cwv kwv
  have Bis := Fis.binds (ps := ["thing"]) fun _ _ _ _ _ _ us hl => match us, hl with | [_], _ => rfl
  have Blo := Flo.binds (ps := ["tuples"]) fun _ _ _ _ _ _ us hl => match us, hl with | [_], _ => rfl
  have Bir := Fir.binds (ps := ["uppers"]) fun _ _ _ _ _ _ us hl => match us, hl with | [_], _ => rfl
  have Bfr := Ffr.binds (ps := ["uppers"]) fun _ _ _ _ _ _ us hl => match us, hl with | [_], _ => rfl
  have Bpi := Fpi.binds (ps := ["_law_script", "_law_k"]) fun _ _ _ _ _ _ us hl => match us, hl with | [_, _], _ => rfl
  have Bwo := Fwo.binds (ps := ["_law_number_here"]) fun _ _ _ _ _ _ us hl => match us, hl with | [_], _ => rfl
  have Bnu := Fnu.binds (ps := ["_law_script", "_law_k"]) fun _ _ _ _ _ _ us hl => match us, hl with | [_, _], _ => rfl
  have Bna := Fna.binds (ps := ["_law_script", "_law_many"]) fun _ _ _ _ _ _ us hl => match us, hl with | [_, _], _ => rfl
  have Bov := Fov.binds (ps := ["_law_script", "_law_names_here", "_law_k"]) fun _ _ _ _ _ _ us hl => match us, hl with | [_, _, _], _ => rfl
  have Ble := Fle.binds (ps := ["_law_overs_here"]) fun _ _ _ _ _ _ us hl => match us, hl with | [_], _ => rfl
  have Bri := Fri.binds (ps := ["_law_ring", "_law_overs_here"]) fun _ _ _ _ _ _ us hl => match us, hl with | [_, _], _ => rfl
  have Bpl := Fpl.binds (ps := ["_law_web", "_law_overs_here"]) fun _ _ _ _ _ _ us hl => match us, hl with | [_, _], _ => rfl
  have Bla := Fla.binds (ps := ["_law_script"]) fun _ _ _ _ _ _ us hl => match us, hl with | [_], _ => rfl
  have Brg := Frg.binds (ps := ["self", "ring"]) fun _ _ _ _ _ _ us hl => match us, hl with | [_, _], _ => rfl
  have Bwe := Fwe.binds (ps := ["self", "tuples"]) fun _ _ _ _ _ _ us hl => match us, hl with | [_, _], _ => rfl
  have Bwn := Fwn.binds (ps := ["self"]) fun _ _ _ _ _ _ us hl => match us, hl with | [_], _ => rfl
  have Bwv := Fwv.binds (ps := ["self", "name"]) fun _ _ _ _ _ _ us hl => match us, hl with | [_, _], _ => rfl
  have Cis : Cal K mg "is_name" fis _ _ := ⟨PySem.W.mg_of X G ais, kis, Bis⟩
  have Clo : Cal K mg "look_at_names" flo _ _ := ⟨PySem.W.mg_of X G alo, klo, Blo⟩
  have Cir : Cal K mg "in_rings" fir _ _ := ⟨PySem.W.mg_of X G air, kir, Bir⟩
  have Cfr : Cal K mg "look_for_rings" ffr _ _ := ⟨PySem.W.mg_of X G afr, kfr, Bfr⟩
  have Cpi : Cal K mg "_law_pick" fpi _ _ := ⟨PySem.W.mg_of X G api, kpi, Bpi⟩
  have Cwo : Cal K mg "_law_word" fwo _ _ := ⟨PySem.W.mg_of X G awo, kwo, Bwo⟩
  have Cnu : Cal K mg "_law_number" fnu _ _ := ⟨PySem.W.mg_of X G anu, knu, Bnu⟩
  have Cna : Cal K mg "_law_names" fna _ _ := ⟨PySem.W.mg_of X G ana, kna, Bna⟩
  have Cov : Cal K mg "_law_overs" fov _ _ := ⟨PySem.W.mg_of X G aov, kov, Bov⟩
  have Cle : Cal K mg "_law_left" fle _ _ := ⟨PySem.W.mg_of X G ale, kle, Ble⟩
  have Cri : Cal K mg "_law_is_ring" fri _ _ := ⟨PySem.W.mg_of X G ari, kri, Bri⟩
  have Cpl : Cal K mg "_law_placed" fpl _ _ := ⟨PySem.W.mg_of X G apl, kpl, Bpl⟩
  have n_isinstance := PySem.W.mg_none_of X G z_isinstance
  have n_str := PySem.W.mg_none_of X G z_str
  have n_len := PySem.W.mg_none_of X G z_len
  have n_all := PySem.W.mg_none_of X G z_all
  have n_any := PySem.W.mg_none_of X G z_any
  have n_set := PySem.W.mg_none_of X G z_set
  have n_sorted := PySem.W.mg_none_of X G z_sorted
  have n_list := PySem.W.mg_none_of X G z_list
  have n_range := PySem.W.mg_none_of X G z_range
  have n_dict := PySem.W.mg_none_of X G z_dict
  have n_zip := PySem.W.mg_none_of X G z_zip
  have n_enumerate := PySem.W.mg_none_of X G z_enumerate
  have mF := PySem.W.mg_of X G aCF
  have mR := PySem.W.mg_of X G aCR
  have mW := PySem.W.mg_of X G aCW
  have T : RgT K mg CR frg := ⟨⟨⟨nm, q, N, bs, _, sn, sub, ab, col, dd, m0, m1, m2, m3, m5, xR, by rfl⟩, rsa, reC, rtC, rkC⟩, rnR, arg, rt, mR⟩
  have BF : FitB K CF := ⟨brd, bga, bat⟩
  have cW : Cls K CW := ⟨wpg, whd, wpo, wsa⟩
  have nU : NoAttr K CW "uppers" := wnU
  have mN : Meth K CW "names" fwn := ⟨awn, iwn, kwn⟩
  have mO : Meth K CW "over" fwv := ⟨awv, iwv, kwv⟩
  have Mk1 : Mk K CW fwe := ⟨wmk, awe, iwe, wkc⟩
  have XF : XfC K CR := ⟨rga, rgg, reC, rhC⟩
  have exR := PySem.W.exm_ref reC rhC rtC rsC
  have sO : ∀ H : Hp, SqT K H aO ((["any", "none", "blank", "new", "on"] : List Str).map V.str) := fun H =>
    .inr ⟨_, _, _, xO, rfl, rfl, (by show 5 ≤ sizeLine; decide), .cons ⟨_, rfl⟩ (.cons ⟨_, rfl⟩ (.cons ⟨_, rfl⟩ (.cons ⟨_, rfl⟩ (.cons ⟨_, rfl⟩ .nil))))⟩
  refine ⟨PySem.W.fnOf "law" "law" (defArgs sLaw) (defBody sLaw) (defScope sLaw) .none kVla dcla pmla anla cdla ctla, fun s v => .of_eq rfl, fun base _ _ => ?_⟩
  have Gpi := ok_pick (P := P) (w := w) (mg := mg) (base := base) Fpi
  have Gwo := ok_word (P := P) (w := w) (mg := mg) (base := base) Fwo n_range
  have Gnu := ok_number (P := P) (w := w) (mg := mg) (base := base) Fnu Cpi Gpi
  have Gna := ok_names (P := P) (w := w) (mg := mg) (base := base) Fna Cpi Gpi Cnu Gnu Cwo Gwo n_range
  have Gov := ok_overs (P := P) (w := w) (mg := mg) (base := base) Fov Cpi Gpi Cnu Gnu n_len
  have Gle := ok_left (P := P) (w := w) (mg := mg) (base := base) Fle n_dict n_list n_range n_len
  have Gis := ok_isname (P := P) (w := w) (mg := mg) (base := base) Fis n_isinstance n_str n_len n_all (PySem.W.mg_of X G cL) (PySem.W.mg_of X G cM) (PySem.W.mg_of X G cO) sO
  have Glo := ok_look (P := P) (w := w) (mg := mg) (base := base) Flo Cis Gis n_len n_all n_set
  have Gir := ok_inrings (P := P) (w := w) (mg := mg) (base := base) Fir n_any n_list
  have Grg := ok_ring (P := P) (w := w) (mg := mg) (base := base) Frg T BF mF n_list
  have Gfr := ok_for (P := P) (w := w) (mg := mg) (base := base) Ffr Cir Gir T Grg Brg
  have Gwe := ok_web (P := P) (w := w) (mg := mg) (base := base) Fwe cW nU Clo Glo Cfr Gfr n_sorted n_set
  have Gwn := ok_wnames (P := P) (w := w) (mg := mg) (base := base) Fwn cW nU n_list
  have Gwv := ok_wover (P := P) (w := w) (mg := mg) (base := base) Fwv cW nU n_list
  have Gri := ok_isring (P := P) (w := w) (mg := mg) (base := base) Fri n_isinstance n_list n_len n_set n_zip
  have Gpl := ok_placed (P := P) (w := w) (mg := mg) (base := base) Fpl cW mN Gwn Bwn mO Gwv Bwv n_range n_len n_all
  exact ok_law Fla Cpi Gpi Cna Gna Cov Gov Cle Gle Mk1 Gwe mW Bwe Cri Gri Cpl Gpl mR XF rnR exR n_enumerate n_list
theorem walk {l : PySem.W.OpenLaw} {q : Program} {loose : List Str} {XP : (Str → Option Value) → Heap → Prop} {YP : World → Heap → Prop} {d : DefRec} {K : Params → PySem.W.Frag} (hn : l.most = some 63) (hdf : d.params.defaults = [])
    (hY : ∀ (w : World) (h : Heap), YP w h → (K w.params).In h)
    (F : ∀ (w : World) (mg : Str → Option Value) (fa : Addr) (h : Heap), (K w.params).In h → h.Ns mainGlobals mg → mg d.name = some (.ref fa) →
      ∃ fd : FuncData, (∀ (s : Shared) (u : Value), BindsTo s fd ⟨[u], []⟩ [("_law_script", u)]) ∧ ∀ base : Heap, (K w.params).In base → base.Ns mainGlobals mg → FnOk l.prog w (K w.params) mg base CX0 6 fa fd ["_law_script"] (spLaw (K w.params))) :
    PySem.W.WalkO q loose XP YP l.row.toRowW d [] (fun f vs => PySem.call f vs) :=
  L2.walk_of (n := 63) (k := 6) (x := "_law_script") (CX := fun _ => CX0) (sp := fun w => spLaw (K w.params)) hn (by decide) hdf ⟨rfl, by decide, by decide⟩ hY F (fun _ _ a ns hl _ hS => ⟨a, ns, rfl, hS, hl, fun _ => rfl⟩) fun _ _ _ _ _ z => z
end Rs
open PySem PySem.W PyProof.Rows
set_option maxRecDepth 100000 in
set_option maxHeartbeats 0 in
theorem PySem.Challenge.cw_fitmost_k14_whole_rings_holds : PySem.Challenge.rw_fitmost_k14_whole_rings.Holds := by
  w_on; o_law; k_head; (case hw => w_witness2)
  k_fill
  refine Rs.walk (l := PySem.Challenge.rw_fitmost_k14_whole_rings) rfl rfl (fun w h Y => PySem.W.kIn_of Y) ?F
  case F =>
    intro w mg fa h KX G hmg
    refine' Rs.all_mk KX G hmg ?ais ?alo ?air ?afr ?api ?awo ?anu ?ana ?aov ?ale ?ari ?apl ?ala ?aCF ?aCR ?aCW ?arg ?irg ?awe ?iwe ?awn ?iwn ?awv ?iwv ?lis ?cis ?kis ?llo ?clo ?klo ?lir ?cir ?kir ?lfr ?cfr ?kfr ?lpi ?cpi ?kpi ?lwo ?cwo ?kwo ?lnu ?cnu ?knu ?lna ?cna ?kna ?lov ?cov ?kov ?lle ?cle ?kle ?lri ?cri ?kri ?lpl ?cpl ?kpl ?lla ?cla ?kla ?lrg ?crg ?krg ?lwe ?cwe ?kwe ?lwn ?cwn ?kwn ?lwv ?cwv ?kwv ?wpg ?whd ?wpo ?wsa ?wmk ?wkc ?wnU ?xR ?rsa ?rga ?rgg ?rnR ?rt ?rkC ?reC ?rtC ?rhC ?riC ?rsC ?brd ?bga ?bat ?cL ?cM ?cO ?xO ?z_isinstance ?z_str ?z_len ?z_all ?z_any ?z_set ?z_sorted ?z_list ?z_range ?z_dict ?z_zip ?z_enumerate
    (case ais => k_is)
    (case alo => k_is)
    (case air => k_is)
    (case afr => k_is)
    (case api => k_is)
    (case awo => k_is)
    (case anu => k_is)
    (case ana => k_is)
    (case aov => k_is)
    (case ale => k_is)
    (case ari => k_is)
    (case apl => k_is)
    (case ala => k_is)
    (case aCF => k_is)
    (case aCR => k_is)
    (case aCW => k_is)
    (case arg => k_is)
    (case irg => k_is)
    (case awe => k_is)
    (case iwe => k_is)
    (case awn => k_is)
    (case iwn => k_is)
    (case awv => k_is)
    (case iwv => k_is)
    (case lis => k_is)
    (case cis => k_is)
    (case kis => k_is)
    (case llo => k_is)
    (case clo => k_is)
    (case klo => k_is)
    (case lir => k_is)
    (case cir => k_is)
    (case kir => k_is)
    (case lfr => k_is)
    (case cfr => k_is)
    (case kfr => k_is)
    (case lpi => k_is)
    (case cpi => k_is)
    (case kpi => k_is)
    (case lwo => k_is)
    (case cwo => k_is)
    (case kwo => k_is)
    (case lnu => k_is)
    (case cnu => k_is)
    (case knu => k_is)
    (case lna => k_is)
    (case cna => k_is)
    (case kna => k_is)
    (case lov => k_is)
    (case cov => k_is)
    (case kov => k_is)
    (case lle => k_is)
    (case cle => k_is)
    (case kle => k_is)
    (case lri => k_is)
    (case cri => k_is)
    (case kri => k_is)
    (case lpl => k_is)
    (case cpl => k_is)
    (case kpl => k_is)
    (case lla => k_is)
    (case cla => k_is)
    (case kla => k_is)
    (case lrg => k_is)
    (case crg => k_is)
    (case krg => k_is)
    (case lwe => k_is)
    (case cwe => k_is)
    (case kwe => k_is)
    (case lwn => k_is)
    (case cwn => k_is)
    (case kwn => k_is)
    (case lwv => k_is)
    (case cwv => k_is)
    (case kwv => k_is)
    (case wpg => k_is)
    (case whd => k_is)
    (case wpo => k_is)
    (case wsa => k_is)
    (case wmk => k_is)
    (case wkc => k_is)
    (case wnU => k_is)
    (case xR => k_is)
    (case rsa => k_is)
    (case rga => k_is)
    (case rgg => k_is)
    (case rnR => k_is)
    (case rt => k_is)
    (case rkC => k_is)
    (case reC => k_is)
    (case rtC => k_is)
    (case rhC => k_is)
    (case riC => k_is)
    (case rsC => first | rfl | k_is)
    (case brd => k_is)
    (case bga => k_is)
    (case bat => k_is)
    (case cL => k_is)
    (case cM => k_is)
    (case cO => k_is)
    (case xO => k_is)
    (case z_isinstance => k_is)
    (case z_str => k_is)
    (case z_len => k_is)
    (case z_all => k_is)
    (case z_any => k_is)
    (case z_set => k_is)
    (case z_sorted => k_is)
    (case z_list => k_is)
    (case z_range => k_is)
    (case z_dict => k_is)
    (case z_zip => k_is)
    (case z_enumerate => k_is)
